import PyProof.Rows.All
import Wide.All
import OpenK.AllK
import Wide.FinOn
import HandS.ForMost
import HandS.Walk
import HandS.IsInst
import HandS.Wide
import HandS.Gcd
import HandS.Star
import HandS.Flow
import HandS.EndBits
import HandS.Conv
import HandS.Deep
import HandS.TupAny
import HandS.Codes
import KE.SortData
import KE.SortKeyHeap
import KE.DataCmp
import KE.DataEq
import HandS.Style
import HandS.ExcOwn
import HandS.CallSlots
import HandS.Property
import HandS.Iter
import HandS.IterVal
import KE.KOpsOwn
import KE.KOwnIter
import HandS.OwnIter
import HandS.ClsMeth
import HandS.CallRecv
import KE.KSuper
import HandS.Nested
import HandS.SortKw
import PyProof.WalkInts
import HandS.Exc
import HandS.ExcIs
import HandS.ExcField
import HandS.WordsExc
import HandS.TryOnly
import HandS.More
import HandS.SetKeys
import HandS.DictComp
import HandS.DictTup
import HandS.ReCall
import PyProof.Rows.MatchSeqLen
import PyProof.RulesMatchSeq
import PyProof.DictRoadsH
import PyProof.DictMoreH
import PyProof.DictWalks
import KE.KDictWalk
import KE.KeyNested
import KE.KDictKeyed
import KE.KDictCopyH
import HandS.TupLen
import HandS.Comp
import PyProof.DictUpdate
import PyProof.DictDisplay
import PyProof.MeetsSeq2
import HandS.Rev
import HandS.RevTup
import HandS.Defaults
import PySem.Challenge.RW_shadowlinks_k16_differences_grow
set_option Elab.async false
set_option linter.all false
set_option maxRecDepth 100000
set_option maxHeartbeats 4000000
namespace Sl
open PySem PySem.Spec PyProof.Rows L2
/-- a tuple, as it stands or held -/
def isTup : HO → Bool
  | .tup _ => true
  | .frz _ (.tup _) => true
  | _ => false
/-- a new address -/
structure Fr (H : Hp) (p : Addr) : Prop where
  eq : H p = none
/-- all stands but what is at A (tuples stand anyway) -/
def Kp (A : List Addr) (H H' : Hp) : Prop := ∀ a o, H a = some o → (a ∉ A ∨ isTup o = true) → H' a = some o
section
variable {A B : List Addr} {H H' H1 H2 : Hp} {p q a : Addr} {o o' u : HO}
theorem Kp.refl : Kp A H H := fun _ _ h _ => h
theorem Kp.trans (x : Kp A H H1) (y : Kp A H1 H2) : Kp A H H2 := fun a o h k => y a o (x a o h k) k
theorem Kp.sub (x : Kp A H H') (h : ∀ a ∈ A, a ∈ B) : Kp B H H' := fun a o e k => x a o e (k.imp (fun n m => n (h a m)) id)
theorem Kp.nil (x : Kp [] H H') : Kp B H H' := x.sub fun _ h => nomatch h
theorem Kp.new (h : H p = none) : Kp A H (upd H p o) := fun a u e _ => by
  rw [upd_ne (ne_of_none e h)]; exact e
theorem Kp.own (h : H p = some o) (t : isTup o = false) (m : p ∈ A) : Kp A H (upd H p o') := fun a u e k => by
  by_cases z : a = p
  · subst z
    rw [h] at e
    cases e
    rcases k with k | k
    · exact absurd m k
    · rw [t] at k; cases k
  · rw [upd_ne z]; exact e
/-- a new one, then changed: nothing that stood is touched -/
theorem Kp.back (h : H p = none) (x : Kp (p :: A) H H') : Kp A H H' := fun a o e k => x a o e (k.imp (fun n => by
  simp only [List.mem_cons, not_or]
  exact ⟨ne_of_none e h, n⟩) id)
/-- a change at what was new -/
theorem Kp.put (x : Kp A H H1) (h : H p = none) : Kp A H (upd H1 p o) := fun a u e k => by
  rw [upd_ne (ne_of_none e h)]; exact x a u e k
theorem Kp.none (x : Kp A H H') (n : a ∉ A) (h : H' a = none) : H a = none := by
  cases e : H a with
  | none => rfl
  | some o => have := x _ _ e (.inl n); rw [h] at this; cases this
theorem Kp.rd (x : Kp A H H') (h : Rd H a o) (n : a ∉ A) : Rd H' a o := by
  rcases h with h | ⟨z, h⟩
  · exact .inl (x _ _ h (.inl n))
  · exact .inr ⟨z, x _ _ h (.inl n)⟩
theorem Kp.sqT {K : PySem.W.Frag} {xs : List V} (x : Kp A H H') (h : SqT K H a xs) : SqT K H' a xs := by
  rcases h with (h | ⟨z, h⟩) | h
  · exact .inl (.inl (x _ _ h (.inr rfl)))
  · exact .inl (.inr ⟨z, x _ _ h (.inr rfl)⟩)
  · exact .inr h
end
/-! ### data that stands -/
section
variable (A : List Addr) (K : PySem.W.Frag) (H : Hp)
mutual
inductive Dv : V → PyData → Prop
  | non : Dv .non .none
  | bl (b : Bool) : Dv (.bl b) (.bool b)
  | int (i : Int) : Dv (.int i) (.int i)
  | str (x : Str) : Dv (.str x) (.str x)
  | lst {a : Addr} {xs : List V} {ds : List PyData} : Rd H a (.lst xs) → a ∉ A → DvAll xs ds → Dv (.ref a) (.list ds)
  | tup {a : Addr} {xs : List V} {ds : List PyData} : SqT K H a xs → DvAll xs ds → Dv (.ref a) (.tuple ds)
inductive DvAll : List V → List PyData → Prop
  | nil : DvAll [] []
  | cons {v : V} {vs : List V} {d : PyData} {ds : List PyData} : Dv v d → DvAll vs ds → DvAll (v :: vs) (d :: ds)
end
end
section
variable {A B : List Addr} {K : PySem.W.Frag} {H H' : Hp} {p q a : Addr} {o o' u : HO} {v : V} {d : PyData}
mutual
theorem Dv.kp (k : Kp A H H') : ∀ {v : V} {d : PyData}, Dv A K H v d → Dv A K H' v d
  | _, _, .non => .non
  | _, _, .bl b => .bl b
  | _, _, .int i => .int i
  | _, _, .str x => .str x
  | _, _, .lst h n t => .lst (k.rd h n) n (DvAll.kp k t)
  | _, _, .tup h t => .tup (k.sqT h) (DvAll.kp k t)
theorem DvAll.kp (k : Kp A H H') : ∀ {vs : List V} {ds : List PyData}, DvAll A K H vs ds → DvAll A K H' vs ds
  | _, _, .nil => .nil
  | _, _, .cons h t => .cons (Dv.kp k h) (DvAll.kp k t)
end
mutual
theorem Dv.sub (k : ∀ a ∈ B, a ∈ A) : ∀ {v : V} {d : PyData}, Dv A K H v d → Dv B K H v d
  | _, _, .non => .non
  | _, _, .bl b => .bl b
  | _, _, .int i => .int i
  | _, _, .str x => .str x
  | _, _, .lst h n t => .lst h (fun m => n (k _ m)) (DvAll.sub k t)
  | _, _, .tup h t => .tup h (DvAll.sub k t)
theorem DvAll.sub (k : ∀ a ∈ B, a ∈ A) : ∀ {vs : List V} {ds : List PyData}, DvAll A K H vs ds → DvAll B K H vs ds
  | _, _, .nil => .nil
  | _, _, .cons h t => .cons (Dv.sub k h) (DvAll.sub k t)
end
mutual
def flatT : PyData → Bool
  | .list _ => false
  | .dict _ => false
  | .tuple ds => flatTs ds
  | _ => true
def flatTs : List PyData → Bool
  | [] => true
  | d :: ds => flatT d && flatTs ds
end
mutual
theorem Dv.any : ∀ {v : V} {d : PyData}, flatT d = true → Dv A K H v d → Dv B K H v d
  | _, _, _, .non => .non
  | _, _, _, .bl b => .bl b
  | _, _, _, .int i => .int i
  | _, _, _, .str x => .str x
  | _, _, e, .lst r n t => by simp [flatT] at e
  | _, _, e, .tup r t => .tup r (DvAll.any (by simpa [flatT] using e) t)
theorem DvAll.any : ∀ {vs : List V} {ds : List PyData}, flatTs ds = true → DvAll A K H vs ds → DvAll B K H vs ds
  | _, _, _, .nil => .nil
  | _, _, e, .cons r t => by
    simp only [flatTs, Bool.and_eq_true] at e
    exact .cons (Dv.any e.1 r) (DvAll.any e.2 t)
end
mutual
theorem Dv.dp : ∀ {v : V} {d : PyData}, Dv A K H v d → Dp K H v d
  | _, _, .non => .non
  | _, _, .bl b => .bl b
  | _, _, .int i => .int i
  | _, _, .str x => .str x
  | _, _, .lst h n t => .lst (.inl h) (DvAll.dp t)
  | _, _, .tup h t => .tup h (DvAll.dp t)
theorem DvAll.dp : ∀ {vs : List V} {ds : List PyData}, DvAll A K H vs ds → DpAll K H vs ds
  | _, _, .nil => .nil
  | _, _, .cons h t => .cons (Dv.dp h) (DvAll.dp t)
end
theorem DvAll.length : ∀ {vs : List V} {ds : List PyData}, DvAll A K H vs ds → vs.length = ds.length
  | _, _, .nil => rfl
  | _, _, .cons _ t => congrArg Nat.succ (DvAll.length t)
theorem DvAll.at : ∀ {vs : List V} {ds : List PyData} {i : Nat} {v : V}, DvAll A K H vs ds → vs[i]? = some v → ∃ d, ds[i]? = some d ∧ Dv A K H v d
  | _, _, i, v, .nil, h => by simp at h
  | _, _, 0, v, .cons h _, e => by cases e; exact ⟨_, rfl, h⟩
  | _, _, i + 1, v, .cons _ t, e => DvAll.at (i := i) t e
theorem DvAll.at' : ∀ {vs : List V} {ds : List PyData} {i : Nat} {d : PyData}, DvAll A K H vs ds → ds[i]? = some d → ∃ v, vs[i]? = some v ∧ Dv A K H v d
  | _, _, i, v, .nil, h => by simp at h
  | _, _, 0, v, .cons h _, e => by cases e; exact ⟨_, rfl, h⟩
  | _, _, i + 1, v, .cons _ t, e => DvAll.at' (i := i) t e
theorem DvAll.app : ∀ {vs ws : List V} {ds es : List PyData}, DvAll A K H vs ds → DvAll A K H ws es → DvAll A K H (vs ++ ws) (ds ++ es)
  | _, _, _, _, .nil, h => h
  | _, _, _, _, .cons h t, r => .cons h (DvAll.app t r)
theorem DvAll.one (h : Dv A K H v d) : DvAll A K H [v] [d] := .cons h .nil
theorem DvAll.snoc {vs : List V} {ds : List PyData} (t : DvAll A K H vs ds) (h : Dv A K H v d) : DvAll A K H (vs ++ [v]) (ds ++ [d]) := t.app (.one h)
end
theorem sz {n : Nat} (h : n ≤ 100000) : n ≤ sizeLine := Nat.le_trans h (by decide)
theorem szl {n : Nat} (h : n < 100000) : n < sizeLine := Nat.lt_of_lt_of_le h (by decide)
/-! ### the source of draws -/
def Src (H : Hp) (a : Addr) : Prop := ∃ n c : Int, H a = some (.lst [.int n, .int c])
theorem Src.kp {A : List Addr} {H H' : Hp} {a : Addr} (k : Kp A H H') (n : a ∉ A) (h : Src H a) : Src H' a := by
  obtain ⟨x, y, e⟩ := h
  exact ⟨x, y, k _ _ e (.inl n)⟩
end Sl
namespace Sl
open PySem PySem.Spec PyProof.Rows L2
end Sl
namespace Sl
open PySem PySem.Spec PyProof.Rows L2
/-! ### two readings of one term -/
section
variable {X : Cx}
theorem pi_or {tg e : Expr} {w1 w2 : TI} (h1 : PI X tg e w1) (h2 : PI X tg e w2) : PI X tg e (fun σ H R => w1 σ H R ∨ w2 σ H R) :=
  ⟨fun pins s σ H R I h => h.elim (h1.run pins s σ H R I) (h2.run pins s σ H R I)⟩
end
/-! ### texts in ascending order -/
def slt (a b : Str) : Prop := TL.tl a < TL.tl b
instance (a b : Str) : Decidable (slt a b) := inferInstanceAs (Decidable (TL.tl a < TL.tl b))
theorem slt_trans {a b c : Str} (h : slt a b) (h' : slt b c) : slt a c := List.lt_trans h h'
theorem slt_irrefl (a : Str) : ¬ slt a a := List.lt_irrefl _
theorem slt_tri (a b : Str) : slt a b ∨ a = b ∨ slt b a := by
  by_cases h : slt a b
  · exact .inl h
  · by_cases h' : slt b a
    · exact .inr (.inr h')
    · exact .inr (.inl (TL.ext_tl (List.le_antisymm (List.not_lt.mp h') (List.not_lt.mp h))))
/-- strictly ascending -/
def Asc (l : List Str) : Prop := l.Pairwise slt
/-- ascending lists with the same members are one -/
theorem Asc.ext : ∀ {l m : List Str}, Asc l → Asc m → (∀ x, x ∈ l ↔ x ∈ m) → l = m
  | [], [], _, _, _ => rfl
  | [], y :: m, _, _, h => absurd ((h y).mpr (List.mem_cons_self ..)) List.not_mem_nil
  | x :: l, [], _, _, h => absurd ((h x).mp (List.mem_cons_self ..)) List.not_mem_nil
  | x :: l, y :: m, hl, hm, h => by
    have h1 := List.pairwise_cons.mp hl
    have h2 := List.pairwise_cons.mp hm
    have e : x = y := by
      rcases List.mem_cons.mp ((h x).mp (List.mem_cons_self ..)) with e | e
      · exact e
      · rcases List.mem_cons.mp ((h y).mpr (List.mem_cons_self ..)) with e' | e'
        · exact e'.symm
        · exact absurd (slt_trans (h2.1 x e) (h1.1 y e')) (slt_irrefl _)
    subst e
    rw [Asc.ext h1.2 h2.2 fun z => ?_]
    constructor
    · intro hz
      rcases List.mem_cons.mp ((h z).mp (List.mem_cons_of_mem _ hz)) with e | e
      · subst e; exact absurd (h1.1 _ hz) (slt_irrefl _)
      · exact e
    · intro hz
      rcases List.mem_cons.mp ((h z).mpr (List.mem_cons_of_mem _ hz)) with e | e
      · subst e; exact absurd (h2.1 _ hz) (slt_irrefl _)
      · exact e
/-- one for each -/
def All2 {α β : Type} (R : α → β → Prop) : List α → List β → Prop
  | [], [] => True
  | x :: xs, y :: ys => R x y ∧ All2 R xs ys
  | _, _ => False
theorem All2.at {α β : Type} {R : α → β → Prop} : ∀ {xs : List α} {ys : List β} {i : Nat} {x : α}, All2 R xs ys → xs[i]? = some x → ∃ y, ys[i]? = some y ∧ R x y
  | [], _, _, _, _, e => by simp at e
  | x :: xs, [], _, _, h, _ => False.elim h
  | x :: xs, y :: ys, 0, _, h, e => by cases e; exact ⟨y, rfl, h.1⟩
  | x :: xs, y :: ys, i + 1, _, h, e => All2.at (i := i) h.2 e
theorem All2.length {α β : Type} {R : α → β → Prop} : ∀ {xs : List α} {ys : List β}, All2 R xs ys → xs.length = ys.length
  | [], [], _ => rfl
  | [], _ :: _, h => False.elim h
  | _ :: _, [], h => False.elim h
  | x :: xs, y :: ys, h => congrArg Nat.succ (All2.length h.2)
theorem All2.imp {α β : Type} {R S : α → β → Prop} (k : ∀ x y, R x y → S x y) : ∀ {xs : List α} {ys : List β}, All2 R xs ys → All2 S xs ys
  | [], [], _ => trivial
  | [], _ :: _, h => False.elim h
  | _ :: _, [], h => False.elim h
  | x :: xs, y :: ys, h => ⟨k _ _ h.1, All2.imp k h.2⟩
theorem All2.snoc {α β : Type} {R : α → β → Prop} : ∀ {xs : List α} {ys : List β} {x : α} {y : β}, All2 R xs ys → R x y → All2 R (xs ++ [x]) (ys ++ [y])
  | [], [], _, _, _, h => ⟨h, trivial⟩
  | [], _ :: _, _, _, h, _ => False.elim h
  | _ :: _, [], _, _, h, _ => False.elim h
  | x :: xs, y :: ys, _, _, h, k => ⟨h.1, All2.snoc h.2 k⟩
end Sl
namespace Sl
open PySem PySem.Spec PyProof.Rows L2
/-! ### tests whose answer is told -/
/-- the answer is b, the heap stands -/
def An (t : TT) (σ : L2.St) (H : Hp) (b : Bool) : Prop := ∀ Q : Bool → Hp → Prop, Q b H → t σ H Q
/-- the value is v, the heap stands -/
def Vl (t : TE) (σ : L2.St) (H : Hp) (v : V) : Prop := ∀ Q : VK, Q v H → t σ H Q
section
variable {σ : L2.St} {H : Hp} {t u c : TT} {a b : Bool} {ta tb : TE} {x y z v : V} {D : Ends} {t1 t2 s2 : TS}
theorem An.to (h : An t σ H a) (e : a = b) : An t σ H b := e ▸ h
theorem Vl.to (h : Vl ta σ H x) (e : x = y) : Vl ta σ H y := e ▸ h
end
end Sl
namespace Sl
open PySem PySem.Spec PyProof.Rows L2
/-! ### data of written depth -/
/-- all signs are signs -/
def okS (s : Str) : Prop := ∀ c ∈ TL.tl s, c < 1114112
theorem okS.ok {s : Str} (h : okS s) : PyData.canLay0 (.str s) = true := by
  show PyData.strOk s = true
  unfold PyData.strOk
  rw [Array.all_eq_true']
  intro c hc
  simpa using h c (Array.mem_toList_iff.mpr hc)
end Sl
namespace Sl
open PySem PySem.Spec PyProof.Rows L2
/-! ### rules by K alone (they go into a comprehension's block) -/
def rListOf (K : PySem.W.Frag) : List V → Hp → VK → Prop := fun xs H Q => ∃ p ys, xs = [.ref p] ∧ (SqL K H p ys ∨ SqT K H p ys) ∧ ∀ l, H l = none → Q (.ref l) (upd H l (.lst ys))
def rTupleOf (K : PySem.W.Frag) : List V → Hp → VK → Prop := fun xs H Q => ∃ p ys, xs = [.ref p] ∧ ((SqL K H p ys ∧ ∀ l, H l = none → Q (.ref l) (upd H l (.tup ys))) ∨ (SqT K H p ys ∧ Q (.ref p) H))
def rLenK (K : PySem.W.Frag) : List V → Hp → VK → Prop := fun xs H Q => ∃ x n, xs = [x] ∧ LenV K x H n ∧ Q (.int (n : Nat)) H
section
variable {X : Cx} {K : PySem.W.Frag}
theorem cK_list (e : X.K = K) : CallR X (.type "list") (rListOf K) := by subst e; exact call_list_of
theorem cK_tuple (e : X.K = K) : CallR X (.type "tuple") (rTupleOf K) := by subst e; exact call_tuple_of
theorem cK_len (e : X.K = K) : CallR X (.builtin "len") (rLenK K) := by subst e; exact call_len
theorem cK_isi (e : X.K = K) : CallR X (.builtin "isinstance") (rIsi K) := by subst e; exact call_isi
theorem xK_list (e : X.K = K) : IxR X (rIxL K) := by subst e; exact ix_list
theorem xK_tup (e : X.K = K) : IxR X (rIxT K) := by subst e; exact ix_tup
theorem iK_list {tg l : Expr} {tl : TE} (e : X.K = K) (hl : PE X l tl) : PI X tg l (iList K tl) := by subst e; exact pi_list hl
theorem iK_tup {tg l : Expr} {tl : TE} (e : X.K = K) (hl : PE X l tl) : PI X tg l (iTup K tl) := by subst e; exact pi_tup hl
end
end Sl
namespace Sl
open PySem PySem.Spec PyProof.Rows L2
/-! ### comparisons of data, membership, sorted: over what reads as data -/
section
variable {X : Cx} {K : PySem.W.Frag}
/-- no dict within, not too deep -/
def pln (d : PyData) : Prop := d.plain = true ∧ d.depth ≤ 32
def rNeP (K : PySem.W.Frag) : R2 := fun x y H Q => ∃ d e, Dp K H x d ∧ Dp K H y e ∧ pln d ∧ pln e ∧ Q (.bl (!PyData.eqv d e)) H
theorem oP_ne (e : X.K = K) (hu : X.A.units + 64 < cLine) : OpR X (compareOp .NotEq) (rNeP K) := by
  subst e
  intro pins s σ H x y v u Q I rx ry h
  obtain ⟨d, e, hd, he, ⟨h1, h3⟩, ⟨h2, _⟩, q⟩ := h
  obtain ⟨as, r1⟩ := Dp.reads I d x v hd rx
  obtain ⟨bs, r2⟩ := Dp.reads I e y u he ry
  exact PySem.SeqAt.ne_plain r1 r2 h1 h2 (by have := Nat.min_le_left d.depth e.depth; omega) ⟨.bl _, H, I, rfl, q⟩
def rInP (K : PySem.W.Frag) (neg : Bool) : R2 := fun x y H Q => ∃ d ds, Dp K H x d ∧ (Dp K H y (.list ds) ∨ Dp K H y (.tuple ds)) ∧ pln d ∧ PyData.plainAll ds = true ∧ Q (.bl (if neg then !(ds.any fun z => PyData.eqv z d) else ds.any fun z => PyData.eqv z d)) H
theorem oP_in (e : X.K = K) (hu : X.A.units + 64 < cLine) : OpR X (compareOp .In) (rInP K false) := by
  subst e
  intro pins s σ H x y v u Q I rx ry h
  obtain ⟨d, ds, hd, he, ⟨h1, h3⟩, h2, q⟩ := h
  obtain ⟨as, r1⟩ := Dp.reads I d x v hd rx
  rcases he with he | he
  · obtain ⟨bs, r2⟩ := Dp.reads I _ y u he ry
    exact PySem.SeqAt.in_list_data r2 r1 h2 h1 (by have := Nat.min_le_right (PyData.depthAll ds) d.depth; omega) ⟨.bl _, H, I, rfl, q⟩
  · obtain ⟨bs, r2⟩ := Dp.reads I _ y u he ry
    exact PySem.SeqAt.in_tuple_data r2 r1 h2 h1 (by have := Nat.min_le_right (PyData.depthAll ds) d.depth; omega) ⟨.bl _, H, I, rfl, q⟩
theorem each_of {H : Hp} : ∀ {xs : List V} {us : List Value} {ds : List PyData}, Vals xs us → DpAll K H xs ds → PySem.W.EachIs (fun u d => ∃ v, RelV v u ∧ Dp K H v d) us ds
  | _, _, _, .nil, .nil => .nil
  | _, _, _, .cons r rs, .cons h hs => .cons ⟨_, r, h⟩ (each_of rs hs)
theorem of_each {H : Hp} : ∀ {us : List Value} {ds : List PyData}, PySem.W.EachIs (fun u d => ∃ v, RelV v u ∧ Dp K H v d) us ds → ∃ xs, Vals xs us ∧ DpAll K H xs ds
  | _, _, .nil => ⟨[], .nil, .nil⟩
  | _, _, .cons ⟨v, r, h⟩ t => by
    obtain ⟨xs, rs, hs⟩ := of_each t
    exact ⟨v :: xs, .cons r rs, .cons h hs⟩
theorem each_mono {α β : Type} {R S : α → β → Prop} (k : ∀ a b, R a b → S a b) : ∀ {xs : List α} {ys : List β}, PySem.W.EachIs R xs ys → PySem.W.EachIs S xs ys
  | _, _, .nil => .nil
  | _, _, .cons h t => .cons (k _ _ h) (each_mono k t)
theorem dpAll_len {H : Hp} : ∀ {xs : List V} {ds : List PyData}, DpAll K H xs ds → xs.length = ds.length
  | _, _, .nil => rfl
  | _, _, .cons _ t => congrArg Nat.succ (dpAll_len t)
end
end Sl
namespace Sl
open PySem PySem.Spec PyProof.Rows L2
end Sl
namespace Sl
open PySem PySem.Spec PyProof.Rows L2
/-- a, b = .. in a comprehension's block -/
theorem gK_tup {X : Cx} {K : PySem.W.Frag} (n : Nat) {es : List Expr} {k : Nat} {pos : Pos} {t : TGs} (e : X.K = K) (hc : X.calm = true) (h : PGs X es t)
    (hn : (assignEach es X.env).length = n := by rfl) (hst : (assignEach es X.env).findIdx? (·.1) = none := by rfl) : PG X (.Tuple es k pos) (gTup K n t) := e ▸ pg_tup hc h hn hst
end Sl
namespace Sl
open PySem PySem.Spec PyProof.Rows L2
/-! Own classes: their methods behind len, in, operators, subscripts. E tells, by the caller's slots, what is wanted of an error -/
section
variable {X : Cx} {CX : CXT} {k : Nat} {f C : Addr} {fd : FuncData} {ps : List Str} {sp : Sp} {E : L2.St → XK} {dvs : List V} {ds : List Value}
/-- one of these defs run under an Around of the same room -/
theorem own_run {A' : Around} {E' : Value → Shared → Prop} {pins : List (Addr × Obj)} {σ : L2.St} {H : Hp} {s : Shared} {Q : VK} {e1 : XK} {us : List Value} {vs : List V} (F : FnOk X.prog X.w X.K X.mg X.base CX k f fd ps sp) (hr : Room k A')
    (e0 : Env0 X.prog X.w X.K X.mg X.base A' X.stack s H) (hb : Binds X.K fd ps ds) (hd : Vals dvs ds) (hx : ∀ e s', CX X.stack H s e1 e s' → E' e s') (I : Inv X pins σ H s) (r : Vals vs us) (h : sp (vs ++ dvs) H Q e1) :
    wpAny (model X.prog X.w) A' (call (.ref f) us) (EP X pins σ Q) E' s := by
  have r2 : Vals (vs ++ dvs) (us ++ ds) := r.append hd
  have hl : (us ++ ds).length = ps.length := by rw [← r2.length]; exact F.len _ _ _ _ h
  refine wpAny_call (codeAny_mono (F.run A' X.stack s H ⟨us, []⟩ (us ++ ds) (vs ++ dvs) Q e1 hr e0 (hb s us I.kIn hl) r2 h) fun r s' hq => ?_)
  cases r with
  | error e => exact hx e s' hq
  | ok fl =>
    cases fl with
    | ret u => exact I.after hq
    | _ => exact False.elim hq
theorem pas0 {E0' : XK} (h : Passes CX X E0') : ∀ σ, PassesAt CX X σ ((fun _ => E0') σ) := fun σ pins H s e s' I c => h pins σ H s e s' I c
/-- len(o) -/
def rLenO (C : Addr) (sp : Sp) (E : XK) : List V → Hp → VK → Prop := fun xs H Q => ∃ a dx fs, xs = [.ref a] ∧ H a = some (.ins C dx fs) ∧ sp [.ref a] H (fun v H' => ∃ n : Nat, v = .int (n : Int) ∧ n ≤ 1000000 ∧ Q (.int (n : Int)) H') E
theorem call_lenO {E : XK} (M : Meth X.K C "__len__" f) (F : FnOk X.prog X.w X.K X.mg X.base CX k f fd ps sp) (hr : Room (k + 1) X.A) (hb : Binds X.K fd ps []) (hx : Passes CX X E) : CallR X (.builtin "len") (rLenO C sp E) := by
  intro pins s σ H xs us Q I r h
  obtain ⟨a, dx, fs, rfl, ea, q⟩ := h
  rw [Vals.ref1 r]
  obtain ⟨mA, O, _, _, _, _⟩ := ins_get I.hok ea
  obtain ⟨od, J, _⟩ := O.look
  obtain ⟨m, Fm⟩ := I.fr
  refine PySem.W.len_K Fm I.ok.mod.kin J M.at_ M.fn (wpAny_mono (own_run (dvs := []) F hr.in1 I.env0.in1 hb .nil (fun e s' c => hx pins σ H s e s' I c) I (us := [.ref a]) (vs := [.ref a]) (.cons rfl .nil) q) (fun v s' hv => ?_) fun _ _ z => z)
  obtain ⟨x, H', I2, rx, n, rfl, hn, q2⟩ := hv
  obtain ⟨t, rfl⟩ := rx
  exact ⟨⟨by omega, by omega⟩, .int (n : Int), H', I2.tok _, ⟨_, rfl⟩, q2⟩
/-- y in o, y not in o -/
def rInO (b : Bool) (C : Addr) (sp : Sp) (E : XK) : R2 := fun y x H Q => ∃ a dx fs, x = .ref a ∧ H a = some (.ins C dx fs) ∧ sp [.ref a, y] H (fun v H' => ∃ c, v = .bl c ∧ Q (.bl (b ^^ c)) H') E
theorem op_inO {E : XK} (M : Meth X.K C "__contains__" f) (F : FnOk X.prog X.w X.K X.mg X.base CX k f fd ps sp) (hr : Room k X.A) (hb : Binds X.K fd ps []) (hx : Passes CX X E) : OpR X (compareOp .In) (rInO false C sp E) := by
  intro pins s σ H y x v u Q I ry rx h
  obtain ⟨a, dx, fs, rfl, ea, q⟩ := h
  cases rx
  obtain ⟨mA, O, _, _, _, _⟩ := ins_get I.hok ea
  obtain ⟨od, J, _⟩ := O.look
  obtain ⟨m, Fm⟩ := I.fr
  refine PySem.W.in_K Fm I.ok.mod.kin J M.at_ M.fn (wpAny_mono (own_run (dvs := []) F hr I.env0 hb .nil (fun e s' c => hx pins σ H s e s' I c) I (us := [.ref a, v]) (vs := [.ref a, y]) (.cons rfl (.cons ry .nil)) q) (fun w s' hv => ?_) fun _ _ z => z)
  obtain ⟨z, H', I2, rz, c, rfl, q2⟩ := hv
  obtain rfl : w = .bool c := rz
  exact wpAny_pure ⟨.bl (false ^^ c), H', I2, by cases c <;> rfl, q2⟩
theorem op_ninO {E : XK} (M : Meth X.K C "__contains__" f) (F : FnOk X.prog X.w X.K X.mg X.base CX k f fd ps sp) (hr : Room k X.A) (hb : Binds X.K fd ps []) (hx : Passes CX X E) : OpR X (compareOp .NotIn) (rInO true C sp E) := by
  intro pins s σ H y x v u Q I ry rx h
  obtain ⟨a, dx, fs, rfl, ea, q⟩ := h
  cases rx
  obtain ⟨mA, O, _, _, _, _⟩ := ins_get I.hok ea
  obtain ⟨od, J, _⟩ := O.look
  obtain ⟨m, Fm⟩ := I.fr
  refine PySem.W.notIn_K Fm I.ok.mod.kin J M.at_ M.fn (wpAny_mono (own_run (dvs := []) F hr I.env0 hb .nil (fun e s' c => hx pins σ H s e s' I c) I (us := [.ref a, v]) (vs := [.ref a, y]) (.cons rfl (.cons ry .nil)) q) (fun w s' hv => ?_) fun _ _ z => z)
  obtain ⟨z, H', I2, rz, c, rfl, q2⟩ := hv
  obtain rfl : w = .bool c := rz
  exact wpAny_pure ⟨.bl (true ^^ c), H', I2, by cases c <;> rfl, q2⟩
/-! o - y, y a text or an int; o + p of one class -/
/-- a value that is no NotImplemented -/
theorem cmp_back {Q : VK} {pins : List (Addr × Obj)} {σ : L2.St} {v : Value} {s' : Shared} (h : EP X pins σ Q v s') : PySem.W.CmpBack (EP X pins σ Q) v s' := by
  obtain ⟨x, H', I2, rx, q⟩ := h
  cases v with
  | notImplemented => cases x <;> (simp [L2.RelV] at rx; try (first | cases rx | skip))
  | _ => exact ⟨x, H', I2, rx, q⟩
def tOpO (C : Addr) (sp : Sp) (E : L2.St → XK) (ta tb : TE) : TE := fun σ H Q => ta σ H fun x H1 => tb σ H1 fun y H2 => ∃ a dx fs, x = .ref a ∧ H2 a = some (.ins C dx fs) ∧ sp [.ref a, y] H2 Q (E σ)
end
/-! a class held by a local name, made -/
/-! iteration over an object whose __iter__ gives an iterator over a tuple -/
def tiObj (t : Addr) (i : Nat) : Obj := { cls := .type "tuple_iterator", data := .fields #[.ref t, .int (i : Int) 0] }
def TiO (t it : Addr) (i : Nat) : HO := .ext fun h => h.get? it = some (tiObj t i)
theorem tiO_ok {P : Program} {w : World} {H : Hp} {h : Heap} {t it : Addr} {i : Nat} (e : h.get? it = some (tiObj t i)) : ObjOk P w H h it (TiO t it i) := ⟨e, ⟨_, e⟩, fun h1 h2 q k => k _ q⟩
/-- iter(t), t a tuple -/
def rIterT (K : PySem.W.Frag) (n : Nat) : List V → Hp → VK → Prop := fun xs H Q => ∃ (t : Addr) (zs : List V), xs = [.ref t] ∧ SqT K H t zs ∧ ∀ it, H it = none → n ≤ it → Q (.ref it) (upd H it (TiO t it 0))
/-- a def's promise that may name the heap's size at its entry -/
structure FnSz (P : Program) (w : World) (K : PySem.W.Frag) (mg : Str → Option Value) (base : Heap) (CX : CXT) (k : Nat) (f : Addr) (fd : FuncData) (ps : List Str) (sp : Nat → Sp) : Prop where
  len : ∀ n vs H Q E, sp n vs H Q E → vs.length = ps.length
  run : ∀ (A : Around) (outer : List Env) (s : Shared) (H : Hp) (args : Args) (us : List Value) (vs : List V) (Q : VK) (E : XK), Room k A → Env0 P w K mg base A outer s H → BindsTo s fd args (ps.zip us) → Vals vs us → sp s.heap.objs.size vs H Q E →
    codeAny (model P w) A (.call (.ref f) args) (CR CX outer P w H s Q E) s
theorem fn_sz {CX : CXT} {P : Program} {w : World} {K : PySem.W.Frag} {mg : Str → Option Value} {base : Heap} {k : Nat} {f : Addr} {name qual : Str} {params : Arguments} {body : List Stmt} {scope : Scope} {dV kV doc pm cdv ct oc : Value} {an od : Option Addr}
    {osl : Array (Option Value)} {N ps : List Str} {sp : Nat → Sp} (lk : K.lookup f = some ⟨oc, od, .func (PySem.W.fnOf name qual params body scope dV kV doc pm an cdv ct), osl⟩) (hcd : PySem.W.codeIn K cdv qual = true) (S : FnScope N ps scope)
    (len : ∀ n vs H Q E, sp n vs H Q E → vs.length = ps.length)
    (hbody : ∀ (A : Around) (outer : List Env) (s : Shared) (H : Hp) (vs : List V) (Q : VK) (E : XK), Room k (A.deeper (envOfC qual scope s.heap.objs.size f cdv)) → sp s.heap.objs.size vs H Q E →
      ∃ t, PSs (cxOf CX P w K mg base N qual scope f cdv A outer s H E) body t ∧ t { nx := fun _ H' => Q .non H', rt := Q } (L2.start N vs) H) :
    FnSz P w K mg base CX (k + 1) f (PySem.W.fnOf name qual params body scope dV kV doc pm an cdv ct) ps sp := by
  refine ⟨len, fun A outer s H args us vs Q E hr e0 hb r hsp => ?_⟩
  have KX : K.In s.heap := e0.mod.kin.keeps fun b o e => (e0.bs b o e).1
  have lim : s.heap.NoLimit := e0.mod.nolimit.keeps fun b o e => (e0.bs b o e).1
  have hl := len _ _ _ _ _ hsp
  have places : ∀ y ∈ ps.zip us, scope.names.lookup y.1 = some .local ∨ (scope.names.lookup y.1 = some .cell ∧ ((cellsFrom (s.heap.objs.size + 1) scope.names []).lookup y.1).isSome = true) := fun y hy =>
    (S.par y.1 (List.of_mem_zip (a := y.1) (b := y.2) hy).1).imp id fun q => ⟨q, PySem.W.cellsFrom_some _ _ _ (.inl q)⟩
  refine codeAny_call_function hr.depth (KX _ _ lk) rfl S.co S.gen rfl (PySem.W.codeRec_of KX hcd) (hb _ _ _ _ (wpAny_newFunctionEnv_cells S.kind places fun env he s1 x => ?_))
  subst he
  obtain ⟨t, ht, hq⟩ := hbody A outer s H vs Q E (hr.deeper _) hsp
  refine ⟨lim.keeps x.toInCall.keep, codeAny_func (wpAny_mono (ht.run [] s1 (L2.start N vs) H _ (inv_start S hr.hd e0 hl r x) hq) (fun fl s' hs => ?_) fun e s' hs => hs)⟩
  cases fl with
  | ret u =>
    obtain ⟨v, σ', H', J, rv, q⟩ := hs
    exact ⟨v, H', J.os, J.bare, J.base, J.hok, rv, q⟩
  | next =>
    obtain ⟨σ', H', J, q⟩ := hs
    exact ⟨.non, H', J.os, J.bare, J.base, J.hok, rfl, q⟩
  | brk => obtain ⟨_, _, _, q⟩ := hs; exact False.elim q
  | cont => obtain ⟨_, _, _, q⟩ := hs; exact False.elim q
/-- what __iter__ promises: an iterator over the tuple that tp finds at the object -/
def spIt (K : PySem.W.Frag) (tp : Addr → Hp → Addr → Prop) (n : Nat) : Sp := fun vs H Q _ => ∃ a t zs, vs = [.ref a] ∧ tp a H t ∧ SqT K H t zs ∧ ∀ it, H it = none → n ≤ it → Q (.ref it) (upd H it (TiO t it 0))
def iOwn (K : PySem.W.Frag) (C : Addr) (tp : Addr → Hp → Addr → Prop) (te : TE) : TI := fun σ H R => te σ H fun x H1 => ∃ a dx fs t zs, x = .ref a ∧ H1 a = some (.ins C dx fs) ∧ tp a H1 t ∧ SqT K H1 t zs ∧ R (Itt K t) H1
theorem pi_own {X : Cx} {K : PySem.W.Frag} {k : Nat} {C f : Addr} {fd : FuncData} {ps : List Str} {tp : Addr → Hp → Addr → Prop} {e tg : Expr} {te : TE} (hK : X.K = K) (M : Meth X.K C "__iter__" f) (F : FnSz X.prog X.w X.K X.mg X.base CX0 k f fd ps (spIt K tp)) (hr : Room k X.A) (hb : Binds X.K fd ps [])
    (he : PE X e te) : PI X tg e (iOwn K C tp te) := by
  subst hK
  refine ⟨fun pins s σ H R I h => ?_⟩
  refine thn (he.run pins s σ H _ I h) fun u s1 ⟨x, H1, I1, rx, a, dx, fs, t, zs, ex, ea, ht, hq, q⟩ => ?_
  subst ex
  cases rx
  obtain ⟨mA, O, _, _, _, _⟩ := ins_get I1.hok ea
  obtain ⟨od, J, _⟩ := O.look
  obtain ⟨m, Fm⟩ := I1.fr
  refine PySem.W.owit_iter Fm I1.ok.mod.kin J M.at_ M.fn ?_
  have hsp : spIt X.K tp s1.heap.objs.size [.ref a] H1 (fun v H' => ∃ it, v = .ref it ∧ H1 it = none ∧ s1.heap.objs.size ≤ it ∧ H' = upd H1 it (TiO t it 0)) (fun _ _ _ => False) := ⟨a, t, zs, rfl, ht, hq, fun it hn hs => ⟨it, rfl, hn, hs, rfl⟩⟩
  have hl : ([Value.ref a] ++ ([] : List Value)).length = ps.length := F.len _ _ _ _ _ hsp
  refine wpAny_call (codeAny_mono (F.run X.A X.stack s1 H1 ⟨[.ref a], []⟩ [.ref a] [.ref a] _ _ hr I1.env0 (hb s1 [.ref a] I1.kIn hl) (.cons rfl .nil) hsp) fun r s' hq' => ?_)
  cases r with
  | error e => exact absurd hq' (by intro z; exact z)
  | ok fl =>
    cases fl with
    | ret u =>
      obtain ⟨v, H', I2, rv, it, rfl, hn, hs, rfl⟩ := I1.after hq'
      cases rv
      have ei : s'.heap.get? it = some (tiObj t 0) := (I2.hok it _ upd_same).1
      have st : s'.heap.IsTupleIter it t 0 := ⟨_, ei, rfl, rfl⟩
      have I3 : Inv X pins σ H1 s' := by
        have := ItX.inv_drop I2 (a := it) upd_same
        rwa [ItX.dropH_upd hn] at this
      refine wpAny_specialOf (name := Str.ofString "__next__") st.typeIs PySem.F.slot_tuple_iterator_next.lookup ?_
      refine ⟨it, [it], _, _, H1, rfl, I3, turn_tuple t it, st, fun b hb => ?_, q⟩
      have eb : b = it := by simpa using hb
      subst eb
      have fp := ItX.inv_fp I2 (u := TiO t b 0) upd_same (Nat.le_trans I1.sz hs)
      rwa [ItX.dropH_upd hn] at fp
    | _ => exact False.elim hq'
end Sl
namespace Sl
open PySem PySem.Spec PyProof.Rows L2
/-! list(o), o an object whose __iter__ gives an iterator over a tuple and whose __len__ gives a number -/
end Sl
namespace Sl
open PySem PySem.Spec PyProof.Rows L2
/-! ### C(), no class of it has an __init__ of its own -/
/-! ### C().m(e, ..): nothing is asked of the receiver -/
end Sl
namespace Sl
open PySem PySem.Spec PyProof.Rows L2
end Sl
namespace Sl
open PySem PySem.Spec PyProof.Rows L2 NdefX
/-! ### a and b where a is looked at with the activation known -/
/-! ### super().m(..) -/
/-! ### a method whose body is: return super().m(e, ..) and ..-/
/-- a def of the text that closes over __class__ -/
structure FunC (K : PySem.W.Frag) (x qual : Str) (st : Stmt) (cc cda f : Addr) (fd : FuncData) : Prop where
  ex : ∃ (oc : Value) (od : Option Addr) (kV doc pm : Value) (an : Option Addr) (ct : Value) (osl : Array (Option Value)),
    fd = PySem.W.ksFn x qual (defArgs st) (defBody st) (defScope st) .none kV doc pm an (.ref cda) ct cc ∧ K.lookup f = some ⟨oc, od, .func fd, osl⟩ ∧ PySem.W.codeIn K (.ref cda) qual = true
  kp : PySem.W.keepIn K (.ref f) = true
theorem FunC.binds {K : PySem.W.Frag} {x qual : Str} {st : Stmt} {cc cda f : Addr} {fd : FuncData} {ps : List Str} (F : FunC K x qual st cc cda f fd)
    (h : ∀ (kV doc pm : Value) (an : Option Addr) (cdv ct : Value) (us : List Value), us.length = ps.length → bindArgs (PySem.W.ksFn x qual (defArgs st) (defBody st) (defScope st) .none kV doc pm an cdv ct cc) ⟨us, []⟩ = pure (ps.zip us)) : Binds K fd ps [] := by
  obtain ⟨oc, od, kV, doc, pm, an, ct, osl, rfl, lk, hcd⟩ := F.ex
  exact .all (h kV doc pm an (.ref cda) ct)
end Sl
namespace Sl
open PySem PySem.Spec PyProof.Rows L2
/-! ### min(xs, default=d) -/
/-! ### max(xs, default=d) -/
end Sl
namespace Sl
open PySem PySem.Spec PyProof.Rows L2
/-! ### own exceptions without an __init__ of their own -/
structure Err0 (K : PySem.W.Frag) (mg : Str → Option Value) (x : Str) (C : Addr) : Prop where
  gC : mg x = some (.ref C)
  ex : PySem.W.excIn K C [.type "ValueError", .type "Exception", .type "BaseException", .type "object"] "ValueError.__new__" = true
  kp : PySem.W.keepIn K (.ref C) = true
  ty : PySem.W.typeIn K (.ref C) = some (.type "type")
  ec : ExcC K C
section
variable {X : Cx} {x m : Str} {j : Nat} {C : Addr} {p p2 pos : Pos}
/-- C('m') -/
theorem pmk_err0 (T : Err0 X.K X.mg x C) (hg : Gl X x) (hdb : (x == ("__debug__" : Str)) = false := by decide) : PMk X (.Call (.Name x p) [.Constant (.str m) j p2] [] pos) (fun _ H Q => Q (.ref C) none H) :=
  pmk_own PySem.F.excBase_ValueError T.ex T.gC T.kp (raises_own T.ec.hs T.ty) hg hdb
/-- isinstance(e, c), e the exception that the suite holds, of class C -/
def rIs0 (K : PySem.W.Frag) (C a : Addr) (cls : Value) (d : Option Addr) : List V → Hp → VK → Prop := fun xs H Q => ∃ (c : V) (cv : Value) (b : Bool), xs = [.ref a, c] ∧ cls = .ref C ∧ d = none ∧ ClsV c cv ∧ PySem.W.kitOne K (.ref C) cv = some b ∧ Q (.bl b) H
theorem call_is0 {a : Addr} {oe : Obj} {cls : Value} {d : Option Addr} {pn : List (Addr × Obj)} (T : Err0 X.K X.mg x C) (hz : Zc cls d oe) (hf : ∃ vs, oe.data = .fields vs) : CallR (X.suite a ((a, oe) :: pn)) (.builtin "isinstance") (rIs0 X.K C a cls d) := by
  intro pins s σ H xs us Q I r h
  obtain ⟨c, cv, b, rfl, rfl, rfl, hcv, e, q⟩ := h
  exact call_isE T.ec hz hf pins s σ H _ us Q I r ⟨c, cv, b, rfl, fun u r => hcv.eq r, e, q⟩
end
end Sl
namespace Mi
open PySem PySem.Spec PyProof.Rows L2
section
variable {X : Cx} {K : PySem.W.Frag}
/-- list + list, read alone -/
def rCatS (K : PySem.W.Frag) : R2 := fun x y H Q => ∃ l b xs zs, x = .ref l ∧ y = .ref b ∧ SqL K H l xs ∧ SqL K H b zs ∧ xs.length + zs.length ≤ sizeLine ∧ ∀ p, H p = none → Q (.ref p) (upd H p (.lst (xs ++ zs)))
theorem op_catS (e : X.K = K) : OpR X (binaryOp .Add) (rCatS K) := by
  subst e
  intro pins s σ H x y v u Q I rx ry h
  obtain ⟨l, b, xs, zs, rfl, rfl, hH, hB, hz, q⟩ := h
  cases rx
  cases ry
  obtain ⟨its, r, ⟨⟨cls, dd, data, sl⟩, n, e, hc, hd0, hd⟩, hl⟩ := I.list hH
  obtain ⟨its2, r2, ⟨⟨cls2, dd2, data2, sl2⟩, n2, e2, hc2, hd02, hd2⟩, hl2⟩ := I.list hB
  simp only at hc hd hc2 hd2 hd0 hd02
  subst hc hd hc2 hd2 hd0 hd02
  have ea : its.toArray ++ its2.toArray = (its ++ its2).toArray := by simp
  have hsz : its.length + its2.length ≤ sizeLine := by rw [← r.length, ← r2.length]; exact hz
  refine concat_meets ⟨_, e, rfl⟩ ⟨_, e2, rfl⟩ noFill_list_add seq_list_add PySem.F.slot_list_add PySem.F.entry_list_add (PySem.F.args_list_add_2 _ _) (list_addW l b its.toArray its2.toArray n n2 none none sl sl2 (by simpa using hsz)) ⟨e, e2, ?_⟩
  rw [ea]
  exact ⟨.ref _, _, I.lnew (t' := s.toks) (r.append r2) (by rw [List.length_append]; omega), rfl, q _ I.fresh⟩
theorem sK_tupA (e : X.K = K) : SlR X (rSlA K) := by subst e; exact sl_tupA
theorem sK_list (e : X.K = K) : SlR X (rSlL K) := by subst e; exact sl_list
end
end Mi
namespace Mi
open PySem PySem.Spec PyProof.Rows L2
open Sl (isTup sz szl)
/-! ### plain results -/
inductive EF | no | int (i : Int) | str (s : Str)
  deriving DecidableEq
/-- an exception of the program's own: the number of its class, its field -/
structure Er where
  c : Nat
  f : EF
  deriving DecidableEq
inductive Res (α : Type) | ok (a : α) | err (e : Er) | bad
  deriving DecidableEq
def Res.bind {α β : Type} : Res α → (α → Res β) → Res β
  | .ok a, k => k a
  | .err e, _ => .err e
  | .bad, _ => .bad
def Res.noerr {α : Type} : Res α → Res α
  | .err _ => .bad
  | r => r
def lt {α β : Type} (x : α) (k : α → β) : β := k x
@[simp] theorem lt_def {α β : Type} (x : α) (k : α → β) : lt x k = k x := rfl
section
variable {α β γ : Type}
@[simp] theorem bind_ok (a : α) (k : α → Res β) : (Res.ok a).bind k = k a := rfl
@[simp] theorem bind_err (e : Er) (k : α → Res β) : (Res.err e).bind k = .err e := rfl
@[simp] theorem bind_bad (k : α → Res β) : (Res.bad).bind k = .bad := rfl
theorem bind_assoc (m : Res α) (k : α → Res β) (l : β → Res γ) : (m.bind k).bind l = m.bind fun a => (k a).bind l := by cases m <;> rfl
@[simp] theorem noerr_ok (a : α) : (Res.ok a).noerr = .ok a := rfl
@[simp] theorem noerr_err (e : Er) : (Res.err e : Res α).noerr = .bad := rfl
@[simp] theorem noerr_bad : (Res.bad : Res α).noerr = .bad := rfl
end
/-- how a turn of a loop ends -/
inductive Fl (σ ρ : Type) | nx (s : σ) | rt (r : ρ) | br (s : σ)
def pfold {σ α : Type} (f : σ → α → Res σ) : σ → List α → Res σ
  | s, [] => .ok s
  | s, x :: xs => (f s x).bind fun s' => pfold f s' xs
def pnext {σ ρ : Type} (g : σ → Res (Fl σ ρ)) : Fl σ ρ → Res (Fl σ ρ)
  | .nx s => g s
  | .rt r => .ok (.rt r)
  | .br s => .ok (.nx s)
def pfor {σ ρ α : Type} (f : σ → α → Res (Fl σ ρ)) : σ → List α → Res (Fl σ ρ)
  | s, [] => .ok (.nx s)
  | s, x :: xs => (f s x).bind (pnext fun s' => pfor f s' xs)
def pafter {σ ρ τ : Type} (k : σ → Res τ) (j : ρ → Res τ) : Fl σ ρ → Res τ
  | .nx s => k s
  | .br s => k s
  | .rt r => j r
/-- behind a loop: what follows, or the return -/
def Res.thn {σ ρ τ : Type} (m : Res (Fl σ ρ)) (k : σ → Res τ) (j : ρ → Res τ) : Res τ := m.bind (pafter k j)
@[simp] theorem thn_nx {σ ρ τ : Type} (s : σ) (k : σ → Res τ) (j : ρ → Res τ) : (Res.ok (Fl.nx s)).thn k j = k s := rfl
@[simp] theorem thn_br {σ ρ τ : Type} (s : σ) (k : σ → Res τ) (j : ρ → Res τ) : (Res.ok (Fl.br s)).thn k j = k s := rfl
@[simp] theorem thn_rt {σ ρ τ : Type} (r : ρ) (k : σ → Res τ) (j : ρ → Res τ) : (Res.ok (Fl.rt r)).thn k j = j r := rfl
@[simp] theorem thn_err {σ ρ τ : Type} (e : Er) (k : σ → Res τ) (j : ρ → Res τ) : (Res.err e).thn k j = .err e := rfl
@[simp] theorem thn_bad {σ ρ τ : Type} (k : σ → Res τ) (j : ρ → Res τ) : (Res.bad).thn k j = .bad := rfl
/-- try: .. except: n the class of what may come -/
def ptry {α ρ : Type} (m : Res α) (k : α → Res ρ) (n : Nat) (h : Res ρ) : Res ρ := match m with
  | .ok x => k x
  | .err e => if e = ⟨n, .no⟩ then h else .bad
  | .bad => .bad
/-- a comprehension whose parts may fail: none where the test says no -/
def pml {α β : Type} (f : α → Res (Option β)) : List α → Res (List β)
  | [] => .ok []
  | x :: xs => (f x).bind fun r => (pml f xs).bind fun q => .ok (r.toList ++ q)
/-! ### what is frozen; what may be said of a value -/
abbrev Fz := Addr → Prop
/-- what is read, locked or not -/
def core : HO → HO
  | .frz z (.ins C dx fs) => .frz z (.ins C dx fs)
  | .frz _ u => u
  | o => o
theorem isTup_iff {o : HO} : isTup o = true ↔ ∃ xs, core o = .tup xs := by
  cases o with
  | frz z u => cases u <;> simp [isTup, core]
  | _ => simp [isTup, core]
theorem core_tup {o o' : HO} (h : core o' = core o) (t : isTup o = true) : isTup o' = true := by
  rw [isTup_iff] at t ⊢; rw [h]; exact t
structure Le (S : Fz) (H : Hp) (S' : Fz) (H' : Hp) : Prop where
  fz : ∀ a, S a → S' a
  hp : ∀ a o, H a = some o → (S a ∨ isTup o = true) → ∃ o', H' a = some o' ∧ core o' = core o
  tp : ∀ a xs, H a = some (.tup xs) → H' a = some (.tup xs)
theorem Le.refl {S : Fz} {H : Hp} : Le S H S H := ⟨fun _ h => h, fun _ o h _ => ⟨o, h, rfl⟩, fun _ _ h => h⟩
theorem Le.trans {S S1 S2 : Fz} {H H1 H2 : Hp} (x : Le S H S1 H1) (y : Le S1 H1 S2 H2) : Le S H S2 H2 :=
  ⟨fun a h => y.fz a (x.fz a h), fun a o h k => by
    obtain ⟨o1, h1, e1⟩ := x.hp a o h k
    obtain ⟨o2, h2, e2⟩ := y.hp a o1 h1 (k.imp (x.fz a) (core_tup e1))
    exact ⟨o2, h2, e2.trans e1⟩, fun a xs h => y.tp a xs (x.tp a xs h)⟩
theorem Le.ex {S S' : Fz} {H H' : Hp} (f : ∀ a, S a → S' a) (h : ∀ a o, H a = some o → (S a ∨ isTup o = true) → H' a = some o) : Le S H S' H' := ⟨f, fun a o e k => ⟨o, h a o e k, rfl⟩, fun a xs e => h a _ e (.inr rfl)⟩
theorem core_of {o u : HO} (hu : ∀ z w, u ≠ .frz z w) (h : core o = u) : o = u ∨ ∃ z, o = .frz z u := by
  cases o with
  | frz z w =>
    cases w with
    | ins C dx fs => exact absurd h.symm (hu _ _)
    | _ => exact .inr ⟨z, congrArg (HO.frz z) h⟩
  | _ => exact .inl h
theorem Le.rd {S S' : Fz} {H H' : Hp} {a : Addr} {u : HO} (l : Le S H S' H') (hu : ∀ z w, u ≠ .frz z w) (hi : ∀ C dx fs, u ≠ .ins C dx fs) (h : Rd H a u) (k : S a ∨ isTup u = true) : Rd H' a u := by
  have cu : core u = u := by
    cases u with
    | frz z w => exact absurd rfl (hu z w)
    | _ => rfl
  have cz : ∀ z, core (.frz z u) = u := fun z => by
    cases u with
    | frz z w => exact absurd rfl (hu z w)
    | ins C dx fs => exact absurd rfl (hi C dx fs)
    | _ => rfl
  have fin : ∀ o, H a = some o → core o = u → isTup u = true ∨ S a → Rd H' a u := fun o h1 h2 h3 => by
    have t : S a ∨ isTup o = true := h3.elim (fun t => .inr (by
      rw [isTup_iff] at t ⊢
      obtain ⟨xs, e⟩ := t
      exact ⟨xs, h2.trans (cu.symm.trans e)⟩)) .inl
    obtain ⟨o', e1, e2⟩ := l.hp a o h1 t
    rw [h2] at e2
    rcases core_of hu e2 with e | ⟨z, e⟩
    · exact .inl (e ▸ e1)
    · exact .inr ⟨z, e ▸ e1⟩
  rcases h with h | ⟨z, h⟩
  · exact fin u h cu k.symm
  · exact fin _ h (cz z) k.symm
theorem Le.ins {S S' : Fz} {H H' : Hp} {a C dx : Addr} {fs : List (Str × V)} (l : Le S H S' H') (h : H a = some (.ins C dx fs)) (k : S a) : H' a = some (.ins C dx fs) := by
  obtain ⟨o', e1, e2⟩ := l.hp a _ h (.inl k)
  cases o' with
  | frz z w =>
    cases w <;> cases e2
  | _ => rw [e1]; exact congrArg some e2
structure Pv where
  p : Fz → Hp → V → Prop
  up : ∀ {S H S' H' v}, Le S H S' H' → p S H v → p S' H' v
def PsOk (S : Fz) (H : Hp) : List V → List Pv → Prop
  | [], [] => True
  | v :: vs, P :: ps => P.p S H v ∧ PsOk S H vs ps
  | _, _ => False
section
variable {S S' : Fz} {H H' : Hp}
theorem PsOk.up (l : Le S H S' H') : ∀ {vs : List V} {ps : List Pv}, PsOk S H vs ps → PsOk S' H' vs ps
  | [], [], _ => trivial
  | [], _ :: _, h => False.elim h
  | _ :: _, [], h => False.elim h
  | _ :: _, P :: _, h => ⟨P.up l h.1, PsOk.up l h.2⟩
theorem PsOk.length : ∀ {vs : List V} {ps : List Pv}, PsOk S H vs ps → vs.length = ps.length
  | [], [], _ => rfl
  | [], _ :: _, h => False.elim h
  | _ :: _, [], h => False.elim h
  | _ :: _, _ :: _, h => congrArg Nat.succ (PsOk.length h.2)
theorem PsOk.at : ∀ {vs : List V} {ps : List Pv} {i : Nat} {v : V}, PsOk S H vs ps → vs[i]? = some v → ∃ P, ps[i]? = some P ∧ P.p S H v
  | [], _, _, _, _, e => by simp at e
  | _ :: _, [], _, _, h, _ => False.elim h
  | _ :: _, P :: _, 0, _, h, e => by cases e; exact ⟨P, rfl, h.1⟩
  | _ :: _, _ :: _, i + 1, _, h, e => PsOk.at (i := i) h.2 e
theorem PsOk.at' : ∀ {vs : List V} {ps : List Pv} {i : Nat} {P : Pv}, PsOk S H vs ps → ps[i]? = some P → ∃ v, vs[i]? = some v ∧ P.p S H v
  | _, [], _, _, _, e => by simp at e
  | [], _ :: _, _, _, h, _ => False.elim h
  | v :: _, P :: _, 0, _, h, e => by cases e; exact ⟨v, rfl, h.1⟩
  | _ :: _, _ :: _, i + 1, _, h, e => PsOk.at' (i := i) h.2 e
theorem PsOk.app : ∀ {vs ws : List V} {ps qs : List Pv}, PsOk S H vs ps → PsOk S H ws qs → PsOk S H (vs ++ ws) (ps ++ qs)
  | [], _, [], _, _, k => k
  | [], _, _ :: _, _, h, _ => False.elim h
  | _ :: _, _, [], _, h, _ => False.elim h
  | _ :: _, _, _ :: _, _, h, k => ⟨h.1, PsOk.app h.2 k⟩
theorem PsOk.one {v : V} {P : Pv} (h : P.p S H v) : PsOk S H [v] [P] := ⟨h, trivial⟩
theorem PsOk.snoc {vs : List V} {ps : List Pv} {v : V} {P : Pv} (h : PsOk S H vs ps) (k : P.p S H v) : PsOk S H (vs ++ [v]) (ps ++ [P]) := h.app (.one k)
theorem PsOk.set : ∀ {vs : List V} {ps : List Pv} {v : V} {P : Pv} (i : Nat), PsOk S H vs ps → P.p S H v → PsOk S H (vs.set i v) (ps.set i P)
  | [], [], _, _, _, _, _ => trivial
  | [], _ :: _, _, _, _, h, _ => False.elim h
  | _ :: _, [], _, _, _, h, _ => False.elim h
  | _ :: _, _ :: _, _, _, 0, h, k => ⟨k, h.2⟩
  | _ :: _, _ :: _, _, _, i + 1, h, k => ⟨h.1, PsOk.set i h.2 k⟩
theorem PsOk.take : ∀ {vs : List V} {ps : List Pv} (i : Nat), PsOk S H vs ps → PsOk S H (vs.take i) (ps.take i)
  | [], [], i, _ => by simp; trivial
  | [], _ :: _, _, h => False.elim h
  | _ :: _, [], _, h => False.elim h
  | _ :: _, _ :: _, 0, h => trivial
  | _ :: _, _ :: _, i + 1, h => ⟨h.1, PsOk.take i h.2⟩
theorem PsOk.drop : ∀ {vs : List V} {ps : List Pv} (i : Nat), PsOk S H vs ps → PsOk S H (vs.drop i) (ps.drop i)
  | [], [], i, _ => by simp; trivial
  | [], _ :: _, _, h => False.elim h
  | _ :: _, [], _, h => False.elim h
  | _ :: _, _ :: _, 0, h => h
  | _ :: _, _ :: _, i + 1, h => PsOk.drop i h.2
theorem PsOk.reverse : ∀ {vs : List V} {ps : List Pv}, PsOk S H vs ps → PsOk S H vs.reverse ps.reverse
  | [], [], _ => trivial
  | [], _ :: _, h => False.elim h
  | _ :: _, [], h => False.elim h
  | v :: vs, P :: ps, h => by rw [List.reverse_cons, List.reverse_cons]; exact (PsOk.reverse h.2).snoc h.1
end
/-- a mutable object, by its owner; pv: what it is once it is frozen -/
structure Ow where
  w : Fz → Hp → HO → Prop
  up : ∀ {S H S' H' o}, Le S H S' H' → w S H o → w S' H' o
  nt : ∀ {S H o}, w S H o → isTup o = false
  pv : Pv
  to : ∀ {S H a o}, S a → H a = some o → w S H o → pv.p S H (.ref a)
inductive Slt | any | val (P : Pv) | own (pin : Bool) (O : Ow)
abbrev Ctx := List Slt
structure Fr where
  S0 : Fz
  H0 : Hp
  I : Fz
  ad : Nat → Addr
structure FrOk (F : Fr) (S : Fz) (H : Hp) : Prop where
  kp : ∀ a o, F.H0 a = some o → ¬ F.I a → H a = some o
  fz : ∀ a, S a → F.S0 a ∨ F.H0 a = none ∨ F.I a
  le : ∀ a, F.S0 a → S a
  dm : ∀ a, F.H0 a ≠ none → H a ≠ none
  sd : ∀ a, S a → H a ≠ none
structure Rel (F : Fr) (Γ : Ctx) (S : Fz) (σ : L2.St) (H : Hp) : Prop where
  fr : FrOk F S H
  len : σ.length = Γ.length
  val : ∀ (i : Nat) (P : Pv), Γ[i]? = some (Slt.val P) → ∃ v, σ[i]? = some (some v) ∧ P.p S H v
  own : ∀ (i : Nat) (b : Bool) (O : Ow), Γ[i]? = some (Slt.own b O) → ∃ a o, σ[i]? = some (some (.ref a)) ∧ H a = some o ∧ O.w S H o ∧ ¬ S a ∧ (F.I a ∨ F.H0 a = none) ∧ (b = true → a = F.ad i)
  sep : ∀ (i j : Nat) (b b' : Bool) (O O' : Ow) (a : Addr), Γ[i]? = some (Slt.own b O) → Γ[j]? = some (Slt.own b' O') → σ[i]? = some (some (V.ref a)) → σ[j]? = some (some (V.ref a)) → i = j
/-- a is held by a slot of its own -/
def Held (Γ : Ctx) (σ : L2.St) (a : Addr) : Prop := ∃ (i : Nat) (b : Bool) (O : Ow), Γ[i]? = some (Slt.own b O) ∧ σ[i]? = some (some (V.ref a))
section
variable {F : Fr} {Γ : Ctx} {S S' : Fz} {σ : L2.St} {H H' : Hp} {p a : Addr} {o o' : HO} {i : Nat} {v : V} {P : Pv} {O O' : Ow} {b : Bool}
theorem FrOk.fresh (R : FrOk F S H) (h : H p = none) : F.H0 p = none := Classical.byContradiction fun z => R.dm p z h
theorem FrOk.nfz (R : FrOk F S H) (h : H p = none) : ¬ S p := fun z => R.sd p z h
/-- all stands but what is held -/
theorem Rel.move (R : Rel F Γ S σ H) (l : Le S H S' H') (k : ∀ a o, H a = some o → ¬ Held Γ σ a → H' a = some o) (f : ∀ a, S' a → S a ∨ H a = none) (d : ∀ a, S' a → H' a ≠ none) (d2 : ∀ a, H a ≠ none → H' a ≠ none)
    (w : ∀ (i : Nat) (b : Bool) (O : Ow) (a : Addr) (o : HO), Γ[i]? = some (Slt.own b O) → σ[i]? = some (some (V.ref a)) → H a = some o → O.w S H o → ∃ o', H' a = some o' ∧ O.w S' H' o') : Rel F Γ S' σ H' where
  fr := ⟨fun a o h n => k a o (R.fr.kp a o h n) (fun ⟨i, b, O, h1, h2⟩ => by
      obtain ⟨a', o', e1, e2, e3, e4, e5, _⟩ := R.own i b O h1
      rw [h2] at e1; cases e1
      rcases e5 with e5 | e5
      · exact n e5
      · rw [e5] at h; cases h),
    fun a h => (f a h).elim (R.fr.fz a) fun z => .inr (.inl (R.fr.fresh z)), fun a h => l.fz a (R.fr.le a h), fun a h => d2 a (R.fr.dm a h), d⟩
  len := R.len
  val := fun i P h => by
    obtain ⟨v, e, h⟩ := R.val i P h
    exact ⟨v, e, P.up l h⟩
  own := fun i b O h => by
    obtain ⟨a, o, e1, e2, e3, e4, e5, e6⟩ := R.own i b O h
    obtain ⟨o', h1, h2⟩ := w i b O a o h e1 e2 e3
    exact ⟨a, o', e1, h1, h2, fun z => (f a z).elim e4 (fun z => by rw [e2] at z; cases z), e5, e6⟩
  sep := R.sep
theorem le_new (h : H p = none) : Le S H S (upd H p o) := .ex (fun _ h => h) (fun a u e _ => by rw [upd_ne (ne_of_none e h)]; exact e)
theorem upd_some (h : H a ≠ none) : upd H p o a ≠ none := by
  by_cases e : a = p
  · subst e; rw [upd_same]; exact fun z => nomatch z
  · rw [upd_ne e]; exact h
theorem Rel.new (R : Rel F Γ S σ H) (h : H p = none) : Rel F Γ S σ (upd H p o) :=
  R.move (le_new h) (fun a u e _ => by rw [upd_ne (ne_of_none e h)]; exact e) (fun a z => .inl z) (fun a z => upd_some (R.fr.sd a z)) (fun a z => upd_some z)
    fun i b O a u _ _ h1 h2 => ⟨u, by rw [upd_ne (ne_of_none h1 h)]; exact h1, O.up (le_new h) h2⟩
theorem set_at {α : Type} {xs : List α} {i j : Nat} {x y : α} (h : (xs.set i x)[j]? = some y) : (j = i ∧ y = x) ∨ (j ≠ i ∧ xs[j]? = some y) := by
  by_cases e : i = j
  · subst e
    rw [List.getElem?_set] at h
    simp only [if_true] at h
    split at h
    · cases h; exact .inl ⟨rfl, rfl⟩
    · cases h
  · rw [List.getElem?_set_ne e] at h; exact .inr ⟨fun z => e z.symm, h⟩
theorem set_eq {α : Type} {xs : List α} {i : Nat} {x : α} (h : i < xs.length) : (xs.set i x)[i]? = some x := by simp [h]
theorem set_ne {α : Type} {xs : List α} {i j : Nat} {x : α} (h : j ≠ i) : (xs.set i x)[j]? = xs[j]? := List.getElem?_set_ne (Ne.symm h)
/-- a slot gets a value -/
theorem Rel.setv (R : Rel F Γ S σ H) (h : P.p S H v) (hi : i < Γ.length) : Rel F (Γ.set i (.val P)) S (σ.set i (some v)) H where
  fr := R.fr
  len := by rw [List.length_set, List.length_set]; exact R.len
  val := fun j P' e => by
    have q_ := set_at e; clear e; obtain ⟨rfl, e⟩ | ⟨n, e⟩ := q_
    · cases e; exact ⟨v, set_eq (by rw [R.len]; exact hi), h⟩
    · rw [set_ne n]; exact R.val j P' e
  own := fun j b O e => by
    have q_ := set_at e; clear e; obtain ⟨rfl, e⟩ | ⟨n, e⟩ := q_
    · cases e
    · rw [set_ne n]; exact R.own j b O e
  sep := fun j k b b' O O' a e1 e2 e3 e4 => by
    have q_ := set_at e1; clear e1; obtain ⟨rfl, e1⟩ | ⟨n1, e1⟩ := q_
    · cases e1
    have q_ := set_at e2; clear e2; obtain ⟨rfl, e2⟩ | ⟨n2, e2⟩ := q_
    · cases e2
    rw [set_ne n1] at e3; rw [set_ne n2] at e4
    exact R.sep j k b b' O O' a e1 e2 e3 e4
/-- a slot gets a new object of its own -/
theorem Rel.seto (R : Rel F Γ S σ H) (h1 : H a = some o) (h2 : O.w S H o) (h3 : ¬ S a) (h4 : F.I a ∨ F.H0 a = none) (h5 : ¬ Held Γ σ a) (hi : i < Γ.length) : Rel F (Γ.set i (.own false O)) S (σ.set i (some (.ref a))) H where
  fr := R.fr
  len := by rw [List.length_set, List.length_set]; exact R.len
  val := fun j P' e => by
    have q_ := set_at e; clear e; obtain ⟨rfl, e⟩ | ⟨n, e⟩ := q_
    · cases e
    · rw [set_ne n]; exact R.val j P' e
  own := fun j b O e => by
    have q_ := set_at e; clear e; obtain ⟨rfl, e⟩ | ⟨n, e⟩ := q_
    · cases e; exact ⟨a, o, set_eq (by rw [R.len]; exact hi), h1, h2, h3, h4, fun z => nomatch z⟩
    · rw [set_ne n]; exact R.own j b O e
  sep := fun j k b b' O O' c e1 e2 e3 e4 => by
    rcases set_at e1 with ⟨hj, e1'⟩ | ⟨n1, e1'⟩
    · rcases set_at e2 with ⟨hk, e2'⟩ | ⟨n2, e2'⟩
      · rw [hj, hk]
      · rw [hj, set_eq (by rw [R.len]; exact hi)] at e3; cases e3
        rw [set_ne n2] at e4
        exact absurd ⟨k, b', O', e2', e4⟩ h5
    · rcases set_at e2 with ⟨hk, e2'⟩ | ⟨n2, e2'⟩
      · rw [hk, set_eq (by rw [R.len]; exact hi)] at e4; cases e4
        rw [set_ne n1] at e3
        exact absurd ⟨j, b, O, e1', e3⟩ h5
      · rw [set_ne n1] at e3; rw [set_ne n2] at e4
        exact R.sep j k b b' O O' c e1' e2' e3 e4
/-- less is said of the slots -/
def Sub (Γ Γ' : Ctx) : Prop := Γ.length = Γ'.length ∧ ∀ (i : Nat) (x : Slt), Γ'[i]? = some x → x = Slt.any ∨ Γ[i]? = some x
theorem Rel.sub {Γ' : Ctx} (R : Rel F Γ S σ H) (s : Sub Γ Γ') : Rel F Γ' S σ H where
  fr := R.fr
  len := R.len.trans s.1
  val := fun i P h => R.val i P ((s.2 i _ h).resolve_left fun z => nomatch z)
  own := fun i b O h => R.own i b O ((s.2 i _ h).resolve_left fun z => nomatch z)
  sep := fun i j b b' O O' a h1 h2 => R.sep i j b b' O O' a ((s.2 i _ h1).resolve_left fun z => nomatch z) ((s.2 j _ h2).resolve_left fun z => nomatch z)
theorem Sub.refl : Sub Γ Γ := ⟨rfl, fun _ _ h => .inr h⟩
theorem Sub.nil : Sub [] [] := ⟨rfl, fun _ _ h => .inr h⟩
theorem Sub.any {x : Slt} {Γ Γ' : Ctx} (h : Sub Γ Γ') : Sub (x :: Γ) (Slt.any :: Γ') := ⟨by simp [h.1], fun i y e => by
  cases i with
  | zero => cases e; exact .inl rfl
  | succ i => exact h.2 i y e⟩
theorem Sub.same {x : Slt} {Γ Γ' : Ctx} (h : Sub Γ Γ') : Sub (x :: Γ) (x :: Γ') := ⟨by simp [h.1], fun i y e => by
  cases i with
  | zero => exact .inr e
  | succ i => exact h.2 i y e⟩
/-- a slot is forgotten -/
theorem Rel.wipe1 (R : Rel F Γ S σ H) (x : Option V) (hn : Γ[i]? = some .any ∨ Γ.length ≤ i ∨ True) : Rel F (Γ.set i .any) S (σ.set i x) H where
  fr := R.fr
  len := by rw [List.length_set, List.length_set]; exact R.len
  val := fun j P' e => by
    have q_ := set_at e; clear e; obtain ⟨rfl, e⟩ | ⟨n, e⟩ := q_
    · cases e
    · rw [set_ne n]; exact R.val j P' e
  own := fun j b O e => by
    have q_ := set_at e; clear e; obtain ⟨rfl, e⟩ | ⟨n, e⟩ := q_
    · cases e
    · rw [set_ne n]; exact R.own j b O e
  sep := fun j k b b' O O' a e1 e2 e3 e4 => by
    have q_ := set_at e1; clear e1; obtain ⟨rfl, e1⟩ | ⟨n1, e1⟩ := q_
    · cases e1
    have q_ := set_at e2; clear e2; obtain ⟨rfl, e2⟩ | ⟨n2, e2⟩ := q_
    · cases e2
    rw [set_ne n1] at e3; rw [set_ne n2] at e4
    exact R.sep j k b b' O O' a e1 e2 e3 e4
theorem le_mut (h1 : H a = some o) (h2 : ¬ S a) (h3 : isTup o = false) : Le S H S (upd H a o') := .ex (fun _ h => h) (fun c u e k => by
  by_cases z : c = a
  · subst z
    rw [h1] at e; cases e
    rcases k with k | k
    · exact absurd k h2
    · rw [h3] at k; cases k
  · rw [upd_ne z]; exact e)
/-- the owner changes what it holds -/
theorem Rel.mut (R : Rel F Γ S σ H) (hg : Γ[i]? = some (.own b O)) (hs : σ[i]? = some (some (.ref a))) (hw : ∀ o, H a = some o → O.w S H o → O'.w S (upd H a o') o') : Le S H S (upd H a o') ∧ Rel F (Γ.set i (.own b O')) S σ (upd H a o') := by
  obtain ⟨a', o, e1, e2, e3, e4, e5, e6⟩ := R.own i b O hg
  rw [hs] at e1; cases e1
  have l : Le S H S (upd H a o') := le_mut e2 e4 (O.nt e3)
  refine ⟨l, ⟨⟨fun c u h n => ?_, R.fr.fz, R.fr.le, fun c h => upd_some (R.fr.dm c h), fun c h => upd_some (R.fr.sd c h)⟩, by rw [List.length_set]; exact R.len, fun j P e => ?_, fun j b' O1 e => ?_, fun j k b1 b2 O1 O2 c h1 h2 h3 h4 => ?_⟩⟩
  · have z : c ≠ a := fun z => by
      subst z
      rcases e5 with e5 | e5
      · exact n e5
      · rw [e5] at h; cases h
    rw [upd_ne z]; exact R.fr.kp c u h n
  · have q_ := set_at e; clear e; obtain ⟨rfl, e⟩ | ⟨n, e⟩ := q_
    · cases e
    · obtain ⟨v, h1, h2⟩ := R.val j P e
      exact ⟨v, h1, P.up l h2⟩
  · have q_ := set_at e; clear e; obtain ⟨rfl, e⟩ | ⟨n, e⟩ := q_
    · cases e; exact ⟨a, o', hs, upd_same, hw o e2 e3, e4, e5, e6⟩
    · obtain ⟨c, u, h1, h2, h3, h4, h5, h6⟩ := R.own j b' O1 e
      have z : c ≠ a := fun z => by
        subst z
        exact n (R.sep j i b' b O1 O c e hg h1 hs)
      exact ⟨c, u, h1, by rw [upd_ne z]; exact h2, O1.up l h3, h4, h5, h6⟩
  · have q1 : ∃ (b : Bool) (O : Ow), Γ[j]? = some (Slt.own b O) := by
      rcases set_at h1 with ⟨rfl, _⟩ | ⟨_, h1⟩
      · exact ⟨_, _, hg⟩
      · exact ⟨_, _, h1⟩
    have q2 : ∃ (b : Bool) (O : Ow), Γ[k]? = some (Slt.own b O) := by
      rcases set_at h2 with ⟨rfl, _⟩ | ⟨_, h2⟩
      · exact ⟨_, _, hg⟩
      · exact ⟨_, _, h2⟩
    obtain ⟨_, _, q1⟩ := q1
    obtain ⟨_, _, q2⟩ := q2
    exact R.sep j k _ _ _ _ c q1 q2 h3 h4
/-- the owner lets go -/
theorem Rel.freeze (R : Rel F Γ S σ H) (hg : Γ[i]? = some (.own b O)) (hs : σ[i]? = some (some (.ref a))) : Le S H (fun c => S c ∨ c = a) H ∧ O.pv.p (fun c => S c ∨ c = a) H (.ref a) ∧ Rel F (Γ.set i (.val O.pv)) (fun c => S c ∨ c = a) σ H := by
  obtain ⟨a', o, e1, e2, e3, e4, e5, e6⟩ := R.own i b O hg
  rw [hs] at e1; cases e1
  have l : Le S H (fun c => S c ∨ c = a) H := .ex (fun _ h => .inl h) (fun _ _ h _ => h)
  have hp := O.to (S := fun c => S c ∨ c = a) (.inr rfl) e2 (O.up l e3)
  refine ⟨l, hp, ⟨⟨R.fr.kp, fun c h => ?_, fun c h => .inl (R.fr.le c h), R.fr.dm, fun c h => ?_⟩, by rw [List.length_set]; exact R.len, fun j P e => ?_, fun j b' O1 e => ?_, fun j k b1 b2 O1 O2 c h1 h2 h3 h4 => ?_⟩⟩
  · rcases h with h | rfl
    · exact R.fr.fz c h
    · exact e5.elim (fun z => .inr (.inr z)) fun z => .inr (.inl z)
  · rcases h with h | rfl
    · exact R.fr.sd c h
    · rw [e2]; exact fun z => nomatch z
  · have q_ := set_at e; clear e; obtain ⟨rfl, e⟩ | ⟨n, e⟩ := q_
    · cases e; exact ⟨_, hs, hp⟩
    · obtain ⟨v, h1, h2⟩ := R.val j P e
      exact ⟨v, h1, P.up l h2⟩
  · have q_ := set_at e; clear e; obtain ⟨rfl, e⟩ | ⟨n, e⟩ := q_
    · cases e
    · obtain ⟨c, u, h1, h2, h3, h4, h5, h6⟩ := R.own j b' O1 e
      refine ⟨c, u, h1, h2, O1.up l h3, fun z => z.elim h4 fun z => ?_, h5, h6⟩
      subst z
      exact n (R.sep j i b' b O1 O c e hg h1 hs)
  · have q_ := set_at h1; clear h1; obtain ⟨rfl, h1⟩ | ⟨n1, h1⟩ := q_
    · cases h1
    have q_ := set_at h2; clear h2; obtain ⟨rfl, h2⟩ | ⟨n2, h2⟩ := q_
    · cases h2
    exact R.sep j k b1 b2 O1 O2 c h1 h2 h3 h4
end
end Mi
namespace Mi
open PySem PySem.Spec PyProof.Rows L2
open Sl (isTup sz szl)
inductive Vo | val (P : Pv) | own (O : Ow)
def Vo.is (F : Fr) (Γ : Ctx) (σ : L2.St) (S : Fz) (H : Hp) : Vo → V → Prop
  | .val P, v => P.p S H v
  | .own O, v => ∃ a o, v = .ref a ∧ H a = some o ∧ O.w S H o ∧ ¬ S a ∧ (F.I a ∨ F.H0 a = none) ∧ ¬ Held Γ σ a
inductive Ag | val (P : Pv) | io (i : Nat)
def Ag.is (σ : L2.St) (S : Fz) (H : Hp) : Ag → V → Prop
  | .val P, v => P.p S H v
  | .io i, v => σ[i]? = some (some v)
def AgsOk (σ : L2.St) (S : Fz) (H : Hp) : List V → List Ag → Prop
  | [], [] => True
  | v :: vs, g :: gs => g.is σ S H v ∧ AgsOk σ S H vs gs
  | _, _ => False
/-- what is wanted of an exception e -/
def ErH (A : Nat → Addr) (e : Er) (E : XK) (H : Hp) : Prop := match e.f with
  | .no => E (.ref (A e.c)) none H
  | .int i => ∀ dd n, H dd = some (.xd [(n, .int i)]) → E (.ref (A e.c)) (some dd) H
  | .str s => ∀ dd n, H dd = some (.xd [(n, .str s)]) → E (.ref (A e.c)) (some dd) H
section
variable {ρ : Type} (A : Nat → Addr)
def EOk (E : XK) (F : Fr) (T : Res ρ → Prop) : Prop := ∀ e, T (.err e) → ∀ S' H', FrOk F S' H' → ErH A e E H'
structure Ok0 (E : XK) (F : Fr) (T : Res ρ → Prop) : Prop where
  nb : ¬ T .bad
  er : EOk A E F T
variable (E : L2.St → XK)
def WX (Γ : Ctx) (t : TE) (c : Res ρ) (κ : Ctx → Vo → Res ρ → Prop) : Prop :=
  ∀ (F : Fr) (T : Res ρ → Prop) (S : Fz) (σ : L2.St) (H : Hp) (Q : VK), Ok0 A (E σ) F T → Rel F Γ S σ H → T c →
    (∀ Γ' V c', κ Γ' V c' → ∀ S' H' v, Rel F Γ' S' σ H' → Le S H S' H' → V.is F Γ' σ S' H' v → T c' → Q v H') → t σ H Q
def WT (Γ : Ctx) (t : TT) (c : Res ρ) (κ : Ctx → Bool → Res ρ → Prop) : Prop :=
  ∀ (F : Fr) (T : Res ρ → Prop) (S : Fz) (σ : L2.St) (H : Hp) (Q : Bool → Hp → Prop), Ok0 A (E σ) F T → Rel F Γ S σ H → T c →
    (∀ Γ' b c', κ Γ' b c' → ∀ S' H', Rel F Γ' S' σ H' → Le S H S' H' → T c' → Q b H') → t σ H Q
def WA (Γ : Ctx) (t : TA) (c : Res ρ) (κ : Ctx → List Ag → Res ρ → Prop) : Prop :=
  ∀ (F : Fr) (T : Res ρ → Prop) (S : Fz) (σ : L2.St) (H : Hp) (Q : List V → Hp → Prop), Ok0 A (E σ) F T → Rel F Γ S σ H → T c →
    (∀ Γ' gs c', κ Γ' gs c' → ∀ S' H' vs, Rel F Γ' S' σ H' → Le S H S' H' → AgsOk σ S' H' vs gs → T c' → Q vs H') → t σ H Q
/-- an operator on values -/
def RX (r : R2) (P P' : Pv) (Γ : Ctx) (c : Res ρ) (κ : Ctx → Vo → Res ρ → Prop) : Prop :=
  ∀ (F : Fr) (T : Res ρ → Prop) (S : Fz) (σ : L2.St) (H : Hp) (x y : V) (Q : VK), Ok0 A (E σ) F T → Rel F Γ S σ H → T c → P.p S H x → P'.p S H y →
    (∀ Γ' V c', κ Γ' V c' → ∀ S' H' v, Rel F Γ' S' σ H' → Le S H S' H' → V.is F Γ' σ S' H' v → T c' → Q v H') → r x y H Q
def RU (r : V → Hp → VK → Prop) (P : Pv) (Γ : Ctx) (c : Res ρ) (κ : Ctx → Vo → Res ρ → Prop) : Prop :=
  ∀ (F : Fr) (T : Res ρ → Prop) (S : Fz) (σ : L2.St) (H : Hp) (x : V) (Q : VK), Ok0 A (E σ) F T → Rel F Γ S σ H → T c → P.p S H x →
    (∀ Γ' V c', κ Γ' V c' → ∀ S' H' v, Rel F Γ' S' σ H' → Le S H S' H' → V.is F Γ' σ S' H' v → T c' → Q v H') → r x H Q
/-- a call of a built-in on values -/
def RC (r : L2.St → List V → Hp → VK → Prop) (gs : List Ag) (Γ : Ctx) (c : Res ρ) (κ : Ctx → Vo → Res ρ → Prop) : Prop :=
  ∀ (F : Fr) (T : Res ρ → Prop) (S : Fz) (σ : L2.St) (H : Hp) (vs : List V) (Q : VK), Ok0 A (E σ) F T → Rel F Γ S σ H → T c → AgsOk σ S H vs gs →
    (∀ Γ' V c', κ Γ' V c' → ∀ S' H' v, Rel F Γ' S' σ H' → Le S H S' H' → V.is F Γ' σ S' H' v → T c' → Q v H') → r σ vs H Q
def WG (Γ : Ctx) (g : TG) (P : Pv) (κ : Ctx → Prop) : Prop :=
  ∀ (F : Fr) (S : Fz) (σ : L2.St) (H : Hp) (x : V) (Q : L2.St → Hp → Prop), Rel F Γ S σ H → P.p S H x →
    (∀ Γ', κ Γ' → ∀ σ', Rel F Γ' S σ' H → Q σ' H) → g x σ H Q
def WGs (Γ : Ctx) (g : TGs) (ps : List Pv) (κ : Ctx → Prop) : Prop :=
  ∀ (F : Fr) (S : Fz) (σ : L2.St) (H : Hp) (xs : List V) (Q : L2.St → Hp → Prop), Rel F Γ S σ H → PsOk S H xs ps →
    (∀ Γ', κ Γ' → ∀ σ', Rel F Γ' S σ' H → Q σ' H) → g xs σ H Q
/-- what a loop walks -/
def ItOk (F : Fr) (J : It) (ps : List Pv) (S : Fz) (H : Hp) : Prop := ps.length ≤ sizeLine ∧ ∀ S1 H1, Le S H S1 H1 → FrOk F S1 H1 → (∀ i, i < ps.length → J.go i H1) ∧ J.stop ps.length H1 ∧
  ∀ i x H', i < ps.length → J.yld i H1 x H' → ∃ P, ps[i]? = some P ∧ (H' = H1 ∨ ∃ p o, H1 p = none ∧ H' = upd H1 p o) ∧ P.p S1 H' x
def WI (Γ : Ctx) (w : TI) (c : Res ρ) (κ : Ctx → List Pv → Res ρ → Prop) : Prop :=
  ∀ (F : Fr) (T : Res ρ → Prop) (S : Fz) (σ : L2.St) (H : Hp) (R : It → Hp → Prop), Ok0 A (E σ) F T → Rel F Γ S σ H → T c →
    (∀ Γ' ps c', κ Γ' ps c' → ∀ S' H' J, Rel F Γ' S' σ H' → Le S H S' H' → T c' → ItOk F J ps S' H' → R J H') → w σ H R
structure Dl (ρ : Type) where
  nx : Ctx → Res ρ → Prop
  rt : Ctx → Vo → Res ρ → Prop := fun _ _ _ => False
  bk : Ctx → Res ρ → Prop := fun _ _ => False
  ct : Ctx → Res ρ → Prop := fun _ _ => False
structure DOk (F : Fr) (T : Res ρ → Prop) (S : Fz) (H : Hp) (Δ : Dl ρ) (D : Ends) : Prop where
  nx : ∀ Γ' c', Δ.nx Γ' c' → ∀ S' σ' H', Rel F Γ' S' σ' H' → Le S H S' H' → T c' → D.nx σ' H'
  rt : ∀ Γ' V c', Δ.rt Γ' V c' → ∀ S' σ' H' v, Rel F Γ' S' σ' H' → Le S H S' H' → V.is F Γ' σ' S' H' v → T c' → D.rt v H'
  bk : ∀ Γ' c', Δ.bk Γ' c' → ∀ S' σ' H', Rel F Γ' S' σ' H' → Le S H S' H' → T c' → D.bk σ' H'
  ct : ∀ Γ' c', Δ.ct Γ' c' → ∀ S' σ' H', Rel F Γ' S' σ' H' → Le S H S' H' → T c' → D.ct σ' H'
def WS (Γ : Ctx) (s : TS) (c : Res ρ) (Δ : Dl ρ) : Prop :=
  ∀ (F : Fr) (T : Res ρ → Prop) (S : Fz) (σ : L2.St) (H : Hp) (D : Ends), (∀ σ, Ok0 A (E σ) F T) → Rel F Γ S σ H → T c → DOk F T S H Δ D → s D σ H
end
theorem DOk.le {ρ : Type} {F : Fr} {T : Res ρ → Prop} {S S1 : Fz} {H H1 : Hp} {Δ : Dl ρ} {D : Ends} (d : DOk F T S H Δ D) (l : Le S H S1 H1) : DOk F T S1 H1 Δ D :=
  ⟨fun Γ c h S' σ' H' R l' => d.nx Γ c h S' σ' H' R (l.trans l'), fun Γ V c h S' σ' H' v R l' => d.rt Γ V c h S' σ' H' v R (l.trans l'), fun Γ c h S' σ' H' R l' => d.bk Γ c h S' σ' H' R (l.trans l'), fun Γ c h S' σ' H' R l' => d.ct Γ c h S' σ' H' R (l.trans l')⟩
/-! ### kinds of values -/
def yInt (i : Int) : Pv := ⟨fun _ _ v => v = .int i, fun _ h => h⟩
def yStr (s : Str) : Pv := ⟨fun _ _ v => v = .str s, fun _ h => h⟩
def yBl (b : Bool) : Pv := ⟨fun _ _ v => v = .bl b, fun _ h => h⟩
def yNon : Pv := ⟨fun _ _ v => v = .non, fun _ h => h⟩
theorem le_sqT {K : PySem.W.Frag} {S S' : Fz} {H H' : Hp} {a : Addr} {xs : List V} (l : Le S H S' H') (h : SqT K H a xs) : SqT K H' a xs :=
  h.imp (fun h => l.rd (fun _ _ e => nomatch e) (fun _ _ _ e => nomatch e) h (.inr rfl)) id
/-- a list that stands -/
def LsF (K : PySem.W.Frag) (S : Fz) (H : Hp) (a : Addr) (xs : List V) : Prop := SqL K H a xs ∧ ((S a ∧ Rd H a (.lst xs)) ∨ ∀ H', SqL K H' a xs)
theorem le_lsF {K : PySem.W.Frag} {S S' : Fz} {H H' : Hp} {a : Addr} {xs : List V} (l : Le S H S' H') (h : LsF K S H a xs) : LsF K S' H' a xs := by
  rcases h.2 with ⟨hs, hr⟩ | h
  · have : Rd H' a (.lst xs) := l.rd (fun _ _ e => nomatch e) (fun _ _ _ e => nomatch e) hr (.inl hs)
    exact ⟨.inl this, .inl ⟨l.fz a hs, this⟩⟩
  · exact ⟨h _, .inr h⟩
def pTup (K : PySem.W.Frag) (ps : List Pv) : Pv := ⟨fun S H v => ∃ a vs, v = .ref a ∧ SqT K H a vs ∧ PsOk S H vs ps ∧ vs.length ≤ sizeLine, fun l ⟨a, vs, h1, h2, h3, h4⟩ => ⟨a, vs, h1, le_sqT l h2, h3.up l, h4⟩⟩
def pLst (K : PySem.W.Frag) (ps : List Pv) : Pv := ⟨fun S H v => ∃ a vs, v = .ref a ∧ LsF K S H a vs ∧ PsOk S H vs ps ∧ vs.length ≤ sizeLine, fun l ⟨a, vs, h1, h2, h3, h4⟩ => ⟨a, vs, h1, le_lsF l h2, h3.up l, h4⟩⟩
/-- a list or a tuple -/
def pSeq (K : PySem.W.Frag) (ps : List Pv) : Pv := ⟨fun S H v => (pLst K ps).p S H v ∨ (pTup K ps).p S H v, fun l h => h.imp ((pLst K ps).up l) ((pTup K ps).up l)⟩
def oLst (K : PySem.W.Frag) (ps : List Pv) : Ow where
  w S H o := ∃ vs, o = .lst vs ∧ PsOk S H vs ps ∧ vs.length ≤ sizeLine
  up l h := by obtain ⟨vs, h1, h2, h3⟩ := h; exact ⟨vs, h1, h2.up l, h3⟩
  nt h := by obtain ⟨vs, rfl, _⟩ := h; rfl
  pv := pLst K ps
  to hs he h := by obtain ⟨vs, rfl, h2, h3⟩ := h; exact ⟨_, vs, rfl, ⟨.inl (.inl he), .inl ⟨hs, .inl he⟩⟩, h2, h3⟩
abbrev yTup (K : PySem.W.Frag) {α : Type} (t : α → Pv) (xs : List α) : Pv := pTup K (xs.map t)
abbrev yLst (K : PySem.W.Frag) {α : Type} (t : α → Pv) (xs : List α) : Pv := pLst K (xs.map t)
abbrev ySeqq (K : PySem.W.Frag) {α : Type} (t : α → Pv) (xs : List α) : Pv := pSeq K (xs.map t)
def yPr (K : PySem.W.Frag) {α β : Type} (t : α → Pv) (u : β → Pv) (x : α × β) : Pv := pTup K [t x.1, u x.2]
def yTr (K : PySem.W.Frag) {α β γ : Type} (t : α → Pv) (u : β → Pv) (w : γ → Pv) (x : α × β × γ) : Pv := pTup K [t x.1, u x.2.1, w x.2.2]
def yOpt {α : Type} (t : α → Pv) : Option α → Pv
  | none => yNon
  | some x => t x
section
variable {ρ : Type} {A : Nat → Addr} {E : L2.St → XK} {K : PySem.W.Frag} {Γ : Ctx} {c : Res ρ} {κ : Ctx → Vo → Res ρ → Prop} {κt : Ctx → Bool → Res ρ → Prop} {κa : Ctx → List Ag → Res ρ → Prop} {ta tb t : TE} {tt uu : TT} {tr : TA} {i j : Nat} {P P' : Pv} {O : Ow} {ps qs : List Pv} {r : R2} {Δ : Dl ρ} {s s2 : TS}
/-! ### expressions -/
theorem wx_c {v : V} (P : Pv) (hp : ∀ S H, P.p S H v) (h : κ Γ (.val P) c) : WX A E Γ (tC v) c κ := fun F T S σ H Q O R hc k => k _ _ _ h S H v R Le.refl (hp S H) hc
theorem wx_int {i : Int} (h : κ Γ (.val (yInt i)) c) : WX A E Γ (tC (.int i)) c κ := wx_c (yInt i) (fun _ _ => rfl) h
theorem wx_str {x : Str} (h : κ Γ (.val (yStr x)) c) : WX A E Γ (tC (.str x)) c κ := wx_c (yStr x) (fun _ _ => rfl) h
theorem wx_bl {b : Bool} (h : κ Γ (.val (yBl b)) c) : WX A E Γ (tC (.bl b)) c κ := wx_c (yBl b) (fun _ _ => rfl) h
theorem wx_non (h : κ Γ (.val yNon) c) : WX A E Γ (tC .non) c κ := wx_c yNon (fun _ _ => rfl) h
theorem wx_var (hg : Γ[i]? = some (.val P)) (h : κ Γ (.val P) c) : WX A E Γ (tVar i) c κ := fun F T S σ H Q O R hc k => by
  obtain ⟨v, e, hv⟩ := R.val i P hg
  exact ⟨v, e, k _ _ _ h S H v R Le.refl hv hc⟩
/-- a new object, from now on read only -/
theorem wx_fz (h : WX A E Γ t c fun Γ' V c' => ∃ O, V = .own O ∧ κ Γ' (.val O.pv) c') : WX A E Γ t c κ := fun F T S σ H Q O R hc k => by
  refine h F T S σ H Q O R hc fun Γ' V c' h S' H' v R' l hv hc' => ?_
  obtain ⟨O', rfl, h⟩ := h
  obtain ⟨a, o, rfl, h1, h2, h3, h4, h5⟩ := hv
  have l2 : Le S' H' (fun c => S' c ∨ c = a) H' := .ex (fun _ h => .inl h) (fun _ _ h _ => h)
  refine k _ _ _ h (fun c => S' c ∨ c = a) H' _ ?_ (l.trans l2) (O'.to (.inr rfl) h1 (O'.up l2 h2)) hc'
  refine ⟨⟨R'.fr.kp, fun c h => ?_, fun c h => .inl (R'.fr.le c h), R'.fr.dm, fun c h => ?_⟩, R'.len, fun j P e => ?_, fun j b' O1 e => ?_, R'.sep⟩
  · rcases h with h | rfl
    · exact R'.fr.fz c h
    · exact h4.elim (fun z => .inr (.inr z)) fun z => .inr (.inl z)
  · rcases h with h | rfl
    · exact R'.fr.sd c h
    · rw [h1]; exact fun z => nomatch z
  · obtain ⟨v, h1, h2⟩ := R'.val j P e
    exact ⟨v, h1, P.up l2 h2⟩
  · obtain ⟨c, u, q1, q2, q3, q4, q5, q6⟩ := R'.own j b' O1 e
    refine ⟨c, u, q1, q2, O1.up l2 q3, fun z => z.elim q4 fun z => ?_, q5, q6⟩
    subst z
    exact h5 ⟨j, b', O1, e, q1⟩
/-- what a slot owns is given away -/
theorem wx_take (hg : Γ[i]? = some (.own false O)) (h : κ (Γ.set i .any) (.own O) c) : WX A E Γ (tVar i) c κ := fun F T S σ H Q _ R hc k => by
  obtain ⟨a, o, e1, e2, e3, e4, e5, e6⟩ := R.own i false O hg
  have R' : Rel F (Γ.set i .any) S (σ.set i (some (.ref a))) H := R.wipe1 _ (.inr (.inr trivial))
  have es : σ.set i (some (.ref a)) = σ := by
    apply List.ext_getElem?
    intro j
    by_cases z : i = j
    · subst z
      rw [e1]
      exact set_eq (List.getElem?_eq_some_iff.mp e1).1
    · rw [List.getElem?_set_ne z]
  rw [es] at R'
  refine ⟨_, e1, k _ _ _ h S H _ R' Le.refl ⟨a, o, rfl, e2, e3, e4, e5, fun ⟨j, b, O', w1, w2⟩ => ?_⟩ hc⟩
  rcases set_at w1 with ⟨_, w⟩ | ⟨n, w⟩
  · cases w
  · exact n (R.sep j i b false O' O a w hg w2 e1)
theorem wx_op (h : WX A E Γ ta c fun Γ1 V1 c1 => ∃ P1, V1 = .val P1 ∧ WX A E Γ1 tb c1 fun Γ2 V2 c2 => ∃ P2, V2 = .val P2 ∧ RX A E r P1 P2 Γ2 c2 κ) : WX A E Γ (tOp r ta tb) c κ := fun F T S σ H Q O R hc k => by
  refine h F T S σ H _ O R hc fun Γ1 V1 c1 h1 S1 H1 x R1 l1 p1 hc1 => ?_
  obtain ⟨P1, rfl, h1⟩ := h1
  refine h1 F T S1 σ H1 _ O R1 hc1 fun Γ2 V2 c2 h2 S2 H2 y R2 l2 p2 hc2 => ?_
  obtain ⟨P2, rfl, h2⟩ := h2
  exact h2 F T S2 σ H2 x y Q O R2 hc2 (P1.up l2 p1) p2 fun Γ' V c' q S' H' v R' l => k Γ' V c' q S' H' v R' ((l1.trans l2).trans l)
theorem wx_un {r : V → Hp → VK → Prop} (h : WX A E Γ ta c fun Γ1 V1 c1 => ∃ P1, V1 = .val P1 ∧ RU A E r P1 Γ1 c1 κ) : WX A E Γ (tUn r ta) c κ := fun F T S σ H Q O R hc k => by
  refine h F T S σ H _ O R hc fun Γ1 V1 c1 h1 S1 H1 x R1 l1 p1 hc1 => ?_
  obtain ⟨P1, rfl, h1⟩ := h1
  exact h1 F T S1 σ H1 x Q O R1 hc1 p1 fun Γ' V c' q S' H' v R' l => k Γ' V c' q S' H' v R' (l1.trans l)
theorem wx_cb {r : List V → Hp → VK → Prop} (h : WA A E Γ tr c fun Γ1 gs c1 => RC A E (fun _ => r) gs Γ1 c1 κ) : WX A E Γ (tCB r tr) c κ := fun F T S σ H Q O R hc k => by
  refine h F T S σ H _ O R hc fun Γ1 gs c1 h1 S1 H1 xs R1 l1 p1 hc1 => ?_
  exact h1 F T S1 σ H1 xs Q O R1 hc1 p1 fun Γ' V c' q S' H' v R' l => k Γ' V c' q S' H' v R' (l1.trans l)
/-! arguments -/
theorem AgsOk.up {σ : L2.St} {S S' : Fz} {H H' : Hp} (l : Le S H S' H') : ∀ {vs : List V} {gs : List Ag}, AgsOk σ S H vs gs → AgsOk σ S' H' vs gs
  | [], [], _ => trivial
  | [], _ :: _, h => False.elim h
  | _ :: _, [], h => False.elim h
  | _ :: _, .val P :: _, h => ⟨P.up l h.1, AgsOk.up l h.2⟩
  | _ :: _, .io i :: _, h => ⟨h.1, AgsOk.up l h.2⟩
theorem wa_nil (h : κa Γ [] c) : WA A E Γ tNil c κa := fun F T S σ H Q O R hc k => k _ _ _ h S H [] R Le.refl trivial hc
theorem wa_cons (h : WX A E Γ ta c fun Γ1 V1 c1 => ∃ P1, V1 = .val P1 ∧ WA A E Γ1 tr c1 fun Γ2 gs c2 => κa Γ2 (.val P1 :: gs) c2) : WA A E Γ (tCons ta tr) c κa := fun F T S σ H Q O R hc k => by
  refine h F T S σ H _ O R hc fun Γ1 V1 c1 h1 S1 H1 x R1 l1 p1 hc1 => ?_
  obtain ⟨P1, rfl, h1⟩ := h1
  exact h1 F T S1 σ H1 _ O R1 hc1 fun Γ2 gs c2 h2 S2 H2 xs R2 l2 p2 hc2 => k _ _ _ h2 S2 H2 _ R2 (l1.trans l2) ⟨P1.up l2 p1, p2⟩ hc2
theorem wa_io {b : Bool} (hg : Γ[i]? = some (.own b O)) (h : WA A E Γ tr c fun Γ2 gs c2 => κa Γ2 (.io i :: gs) c2) : WA A E Γ (tCons (tVar i) tr) c κa := fun F T S σ H Q O R hc k => by
  obtain ⟨a, o, e1, _⟩ := R.own i b _ hg
  exact ⟨_, e1, h F T S σ H _ O R hc fun Γ2 gs c2 h2 S2 H2 xs R2 l2 p2 hc2 => k _ _ _ h2 S2 H2 _ R2 l2 ⟨e1, p2⟩ hc2⟩
def vals : List Pv → List Ag := List.map Ag.val
theorem AgsOk.pvs {σ : L2.St} {S : Fz} {H : Hp} : ∀ {vs : List V} {ps : List Pv}, AgsOk σ S H vs (vals ps) → PsOk S H vs ps
  | [], [], _ => trivial
  | [], _ :: _, h => False.elim h
  | _ :: _, [], h => False.elim h
  | _ :: _, _ :: _, h => ⟨h.1, AgsOk.pvs h.2⟩
/-! displays -/
theorem wx_tup (h : WA A E Γ tr c fun Γ1 gs c1 => ∃ ps, gs = vals ps ∧ ps.length ≤ 1000 ∧ κ Γ1 (.val (pTup K ps)) c1) : WX A E Γ (tTup tr) c κ := fun F T S σ H Q O R hc k => by
  refine h F T S σ H _ O R hc fun Γ1 gs c1 h1 S1 H1 xs R1 l1 p1 hc1 => ?_
  obtain ⟨ps, rfl, hl, h1⟩ := h1
  have p1 := p1.pvs
  have hz : xs.length ≤ sizeLine := sz (by rw [p1.length]; omega)
  exact ⟨hz, fun p hp => k _ _ _ h1 S1 _ _ (R1.new hp) (l1.trans (le_new hp)) ⟨p, xs, rfl, .inl (.inl upd_same), p1.up (le_new hp), hz⟩ hc1⟩
theorem Held.dom {F : Fr} {S : Fz} {σ : L2.St} {H : Hp} {a : Addr} (R : Rel F Γ S σ H) (h : Held Γ σ a) : H a ≠ none := by
  obtain ⟨i, b, O, h1, h2⟩ := h
  obtain ⟨a', o, e1, e2, _⟩ := R.own i b O h1
  rw [h2] at e1; cases e1
  rw [e2]; exact fun z => nomatch z
theorem isOwn {F : Fr} {S : Fz} {σ : L2.St} {H : Hp} {p : Addr} {o : HO} (R : Rel F Γ S σ H) (hp : H p = none) (h : O.w S (upd H p o) o) : (Vo.own O).is F Γ σ S (upd H p o) (.ref p) :=
  ⟨p, o, rfl, upd_same, h, R.fr.nfz hp, .inr (R.fr.fresh hp), fun z => z.dom R hp⟩
theorem wx_lst (h : WA A E Γ tr c fun Γ1 gs c1 => ∃ ps, gs = vals ps ∧ ps.length ≤ 1000 ∧ κ Γ1 (.own (oLst K ps)) c1) : WX A E Γ (tLst tr) c κ := fun F T S σ H Q O R hc k => by
  refine h F T S σ H _ O R hc fun Γ1 gs c1 h1 S1 H1 xs R1 l1 p1 hc1 => ?_
  obtain ⟨ps, rfl, hl, h1⟩ := h1
  have p1 := p1.pvs
  have hz : xs.length ≤ sizeLine := sz (by rw [p1.length]; omega)
  exact ⟨hz, fun p hp => k _ _ _ h1 S1 _ _ (R1.new hp) (l1.trans (le_new hp)) (isOwn R1 hp ⟨xs, rfl, p1.up (le_new hp), hz⟩) hc1⟩
/-! ### tests -/
theorem wt_b (h : WX A E Γ t c fun Γ1 V c1 => ∃ b, V = .val (yBl b) ∧ κt Γ1 b c1) : WT A E Γ (tB t) c κt := fun F T S σ H Q O R hc k => by
  refine h F T S σ H _ O R hc fun Γ1 V c1 h1 S1 H1 x R1 l1 p1 hc1 => ?_
  obtain ⟨b, rfl, h1⟩ := h1
  exact ⟨b, p1, k _ _ _ h1 S1 H1 R1 l1 hc1⟩
theorem wt_not (h : WT A E Γ tt c fun Γ1 b c1 => κt Γ1 (!b) c1) : WT A E Γ (tNot tt) c κt := fun F T S σ H Q O R hc k =>
  h F T S σ H _ O R hc fun Γ1 b c1 h1 S1 H1 R1 l1 hc1 => k _ _ _ h1 S1 H1 R1 l1 hc1
theorem wt_yes (h : κt Γ true c) : WT A E Γ tYes c κt := fun F T S σ H Q O R hc k => k _ _ _ h S H R Le.refl hc
/-- the second part is plain: it changes nothing and has one answer -/
theorem wt_and (b2 : Bool) (h : WT A E Γ tt c fun Γ1 b1 c1 => (b1 = true → WT A E Γ1 uu c1 fun Γ2 b c2 => Γ2 = Γ1 ∧ c2 = c1 ∧ b = b2) ∧ κt Γ1 (b1 && b2) c1) : WT A E Γ (tAnd tt uu) c κt := fun F T S σ H Q O R hc k => by
  refine h F T S σ H _ O R hc fun Γ1 b1 c1 h1 S1 H1 R1 l1 hc1 => ?_
  cases b1 with
  | false => exact k _ _ _ h1.2 S1 H1 R1 l1 hc1
  | true =>
    refine h1.1 rfl F T S1 σ H1 _ O R1 hc1 fun Γ2 b c2 h2 S2 H2 R2 l2 hc2 => ?_
    obtain ⟨rfl, rfl, rfl⟩ := h2
    exact k _ _ _ h1.2 S2 H2 R2 (l1.trans l2) hc2
theorem wt_or (b2 : Bool) (h : WT A E Γ tt c fun Γ1 b1 c1 => (b1 = false → WT A E Γ1 uu c1 fun Γ2 b c2 => Γ2 = Γ1 ∧ c2 = c1 ∧ b = b2) ∧ κt Γ1 (b1 || b2) c1) : WT A E Γ (tOr tt uu) c κt := fun F T S σ H Q O R hc k => by
  refine h F T S σ H _ O R hc fun Γ1 b1 c1 h1 S1 H1 R1 l1 hc1 => ?_
  cases b1 with
  | true => exact k _ _ _ h1.2 S1 H1 R1 l1 hc1
  | false =>
    refine h1.1 rfl F T S1 σ H1 _ O R1 hc1 fun Γ2 b c2 h2 S2 H2 R2 l2 hc2 => ?_
    obtain ⟨rfl, rfl, rfl⟩ := h2
    exact k _ _ _ h1.2 S2 H2 R2 (l1.trans l2) hc2
/-- the second part may fail or change something: a state μ joins both ways -/
theorem wt_andM {μ : Type} (h : WT A E Γ tt c fun Γ1 b1 c1 => ∃ (Γj : μ → Ctx) (m : Res (Bool × μ)) (s0 : μ) (k' : Bool × μ → Res ρ), c1 = (if b1 = true then m else .ok (false, s0)).bind k' ∧ Sub Γ1 (Γj s0) ∧ (b1 = true → WT A E Γ1 uu m fun Γ2 b c2 => ∃ s, c2 = .ok (b, s) ∧ Sub Γ2 (Γj s)) ∧ ∀ q, κt (Γj q.2) q.1 (k' q)) : WT A E Γ (tAnd tt uu) c κt := fun F T S σ H Q O R hc k => by
  refine h F T S σ H _ O R hc fun Γ1 b1 c1 h1 S1 H1 R1 l1 hc1 => ?_
  obtain ⟨Γj, m, s0, k', rfl, sb, hm, hk⟩ := h1
  cases b1 with
  | false => exact k _ _ _ (hk (false, s0)) S1 H1 (R1.sub sb) l1 hc1
  | true =>
    refine hm rfl F (fun m => T (m.bind k')) S1 σ H1 _ ⟨O.nb, O.er⟩ R1 hc1 fun Γ2 b c2 h2 S2 H2 R2 l2 hc2 => ?_
    obtain ⟨s, rfl, sb⟩ := h2
    exact k _ _ _ (hk (b, s)) S2 H2 (R2.sub sb) (l1.trans l2) hc2
theorem wt_orM {μ : Type} (h : WT A E Γ tt c fun Γ1 b1 c1 => ∃ (Γj : μ → Ctx) (m : Res (Bool × μ)) (s0 : μ) (k' : Bool × μ → Res ρ), c1 = (if b1 = true then .ok (true, s0) else m).bind k' ∧ Sub Γ1 (Γj s0) ∧ (b1 = false → WT A E Γ1 uu m fun Γ2 b c2 => ∃ s, c2 = .ok (b, s) ∧ Sub Γ2 (Γj s)) ∧ ∀ q, κt (Γj q.2) q.1 (k' q)) : WT A E Γ (tOr tt uu) c κt := fun F T S σ H Q O R hc k => by
  refine h F T S σ H _ O R hc fun Γ1 b1 c1 h1 S1 H1 R1 l1 hc1 => ?_
  obtain ⟨Γj, m, s0, k', rfl, sb, hm, hk⟩ := h1
  cases b1 with
  | true => exact k _ _ _ (hk (true, s0)) S1 H1 (R1.sub sb) l1 hc1
  | false =>
    refine hm rfl F (fun m => T (m.bind k')) S1 σ H1 _ ⟨O.nb, O.er⟩ R1 hc1 fun Γ2 b c2 h2 S2 H2 R2 l2 hc2 => ?_
    obtain ⟨s, rfl, sb⟩ := h2
    exact k _ _ _ (hk (b, s)) S2 H2 (R2.sub sb) (l1.trans l2) hc2
/-! and, or, not as values; of a bool -/
theorem wx_andV (b2 : Bool) (h : WX A E Γ ta c fun Γ1 V1 c1 => ∃ b1, V1 = .val (yBl b1) ∧ (b1 = true → WX A E Γ1 tb c1 fun Γ2 V c2 => Γ2 = Γ1 ∧ c2 = c1 ∧ V = .val (yBl b2)) ∧ κ Γ1 (.val (yBl (b1 && b2))) c1) : WX A E Γ (tAndV ta tb) c κ := fun F T S σ H Q O R hc k => by
  refine h F T S σ H _ O R hc fun Γ1 V1 c1 h1 S1 H1 x R1 l1 p1 hc1 => ?_
  obtain ⟨b1, rfl, h1⟩ := h1
  refine ⟨b1, p1, ?_⟩
  cases b1 with
  | false => exact k _ _ _ h1.2 S1 H1 _ R1 l1 rfl hc1
  | true =>
    refine h1.1 rfl F T S1 σ H1 _ O R1 hc1 fun Γ2 V c2 h2 S2 H2 y R2 l2 p2 hc2 => ?_
    obtain ⟨rfl, rfl, rfl⟩ := h2
    exact k _ _ _ h1.2 S2 H2 _ R2 (l1.trans l2) p2 hc2
theorem wx_andVM {μ : Type} (h : WX A E Γ ta c fun Γ1 V1 c1 => ∃ b1, V1 = .val (yBl b1) ∧ ∃ (Γj : μ → Ctx) (m : Res (Bool × μ)) (s0 : μ) (k' : Bool × μ → Res ρ), c1 = (if b1 = true then m else .ok (false, s0)).bind k' ∧ Sub Γ1 (Γj s0) ∧ (b1 = true → WX A E Γ1 tb m fun Γ2 V c2 => ∃ b s, V = .val (yBl b) ∧ c2 = .ok (b, s) ∧ Sub Γ2 (Γj s)) ∧ ∀ q : Bool × μ, κ (Γj q.2) (.val (yBl q.1)) (k' q)) : WX A E Γ (tAndV ta tb) c κ := fun F T S σ H Q O R hc k => by
  refine h F T S σ H _ O R hc fun Γ1 V1 c1 h1 S1 H1 x R1 l1 p1 hc1 => ?_
  obtain ⟨b1, rfl, Γj, m, s0, k', rfl, sb, hm, hk⟩ := h1
  refine ⟨b1, p1, ?_⟩
  cases b1 with
  | false => exact k _ _ _ (hk (false, s0)) S1 H1 _ (R1.sub sb) l1 rfl hc1
  | true =>
    refine hm rfl F (fun m => T (m.bind k')) S1 σ H1 _ ⟨O.nb, O.er⟩ R1 hc1 fun Γ2 V c2 h2 S2 H2 y R2 l2 p2 hc2 => ?_
    obtain ⟨b, s, rfl, rfl, sb⟩ := h2
    exact k _ _ _ (hk (b, s)) S2 H2 _ (R2.sub sb) (l1.trans l2) p2 hc2
theorem wx_orVM {μ : Type} (h : WX A E Γ ta c fun Γ1 V1 c1 => ∃ b1, V1 = .val (yBl b1) ∧ ∃ (Γj : μ → Ctx) (m : Res (Bool × μ)) (s0 : μ) (k' : Bool × μ → Res ρ), c1 = (if b1 = true then .ok (true, s0) else m).bind k' ∧ Sub Γ1 (Γj s0) ∧ (b1 = false → WX A E Γ1 tb m fun Γ2 V c2 => ∃ b s, V = .val (yBl b) ∧ c2 = .ok (b, s) ∧ Sub Γ2 (Γj s)) ∧ ∀ q : Bool × μ, κ (Γj q.2) (.val (yBl q.1)) (k' q)) : WX A E Γ (tOrV ta tb) c κ := fun F T S σ H Q O R hc k => by
  refine h F T S σ H _ O R hc fun Γ1 V1 c1 h1 S1 H1 x R1 l1 p1 hc1 => ?_
  obtain ⟨b1, rfl, Γj, m, s0, k', rfl, sb, hm, hk⟩ := h1
  refine ⟨b1, p1, ?_⟩
  cases b1 with
  | true => exact k _ _ _ (hk (true, s0)) S1 H1 _ (R1.sub sb) l1 rfl hc1
  | false =>
    refine hm rfl F (fun m => T (m.bind k')) S1 σ H1 _ ⟨O.nb, O.er⟩ R1 hc1 fun Γ2 V c2 h2 S2 H2 y R2 l2 p2 hc2 => ?_
    obtain ⟨b, s, rfl, rfl, sb⟩ := h2
    exact k _ _ _ (hk (b, s)) S2 H2 _ (R2.sub sb) (l1.trans l2) p2 hc2
theorem wx_notV (h : WX A E Γ ta c fun Γ1 V1 c1 => ∃ b, V1 = .val (yBl b) ∧ κ Γ1 (.val (yBl (!b))) c1) : WX A E Γ (tNotV ta) c κ := fun F T S σ H Q O R hc k => by
  refine h F T S σ H _ O R hc fun Γ1 V1 c1 h1 S1 H1 x R1 l1 p1 hc1 => ?_
  obtain ⟨b, rfl, h1⟩ := h1
  exact ⟨b, p1, k _ _ _ h1 S1 H1 _ R1 l1 rfl hc1⟩
/-! ### operators -/
/-- an operation on ints that asks something: the plain part has it as a guard -/
def guard (p : Prop) [Decidable p] : Res Unit := if p then .ok () else .bad
/-- kinds that == tells apart by their values -/
class Scal (α : Type) (t : α → Pv) where
  enc : α → V
  is : ∀ x S H v, (t x).p S H v → v = enc x
  inj : ∀ x y, enc x = enc y → x = y
  sc : ∀ x y, scal (enc x) (enc y) = true
instance : Scal Int yInt := ⟨V.int, fun _ _ _ _ h => h, fun _ _ h => by injection h, fun _ _ => rfl⟩
instance : Scal Str yStr := ⟨V.str, fun _ _ _ _ h => h, fun _ _ h => by injection h, fun _ _ => rfl⟩
instance : Scal Bool yBl := ⟨V.bl, fun _ _ _ _ h => h, fun _ _ h => by injection h, fun _ _ => rfl⟩
theorem rx_eq {α : Type} {t : α → Pv} [DecidableEq α] [I : Scal α t] {x y : α} (h : κ Γ (.val (yBl (decide (x = y)))) c) : RX A E rEq (t x) (t y) Γ c κ := fun F T S σ H v w Q O R hc h1 h2 k => by
  have e1 := I.is _ _ _ _ h1
  have e2 := I.is _ _ _ _ h2
  subst e1; subst e2
  refine ⟨I.sc x y, ?_⟩
  have e : (decide (I.enc x = I.enc y)) = decide (x = y) := decide_eq_decide.mpr ⟨I.inj x y, fun z => by rw [z]⟩
  rw [e]
  exact k _ _ _ h S H _ R Le.refl rfl hc
theorem rx_ne {α : Type} {t : α → Pv} [DecidableEq α] [I : Scal α t] {x y : α} (h : κ Γ (.val (yBl (!decide (x = y)))) c) : RX A E rNe (t x) (t y) Γ c κ := fun F T S σ H v w Q O R hc h1 h2 k => by
  have e1 := I.is _ _ _ _ h1
  have e2 := I.is _ _ _ _ h2
  subst e1; subst e2
  refine ⟨I.sc x y, ?_⟩
  have e : (decide (I.enc x = I.enc y)) = decide (x = y) := decide_eq_decide.mpr ⟨I.inj x y, fun z => by rw [z]⟩
  rw [e]
  exact k _ _ _ h S H _ R Le.refl rfl hc
end
end Mi
namespace Mi
open PySem PySem.Spec PyProof.Rows L2
open Sl (isTup sz szl)
section
variable {ρ : Type} {A : Nat → Addr} {E : L2.St → XK} {K : PySem.W.Frag} {Γ : Ctx} {c : Res ρ} {κ : Ctx → Vo → Res ρ → Prop} {κt : Ctx → Bool → Res ρ → Prop} {κa : Ctx → List Ag → Res ρ → Prop} {κi : Ctx → List Pv → Res ρ → Prop} {ta tb t te : TE} {tt uu : TT} {tr : TA} {i j : Nat} {P P' : Pv} {O : Ow} {ps qs : List Pv} {r : R2} {Δ : Dl ρ} {s s2 tb' : TS} {g : TG} {gs : TGs}
/-! ### statements -/
theorem ws_next (h : Δ.nx Γ c) : WS A E Γ tNext c Δ := fun F T S σ H D O R hc d => d.nx _ _ h S σ H R Le.refl hc
theorem ws_seq (h : WS A E Γ s c { Δ with nx := fun Γ' c' => WS A E Γ' s2 c' Δ }) : WS A E Γ (tSeq s s2) c Δ := fun F T S σ H D O R hc d =>
  h F T S σ H { D with nx := s2 D } O R hc ⟨fun Γ' c' q S' σ' H' R' l hc' => q F T S' σ' H' D O R' hc' (d.le l), d.rt, d.bk, d.ct⟩
theorem ws_ctx {Γ' : Ctx} (e : Γ = Γ') (h : WS A E Γ' s c Δ) : WS A E Γ s c Δ := e ▸ h
theorem wg_ctx {Γ' : Ctx} {κ : Ctx → Prop} (e : Γ = Γ') (h : WG Γ' g P κ) : WG Γ g P κ := e ▸ h
/-- from here on what slot i holds is read only -/
theorem ws_frz (i : Nat) {b : Bool} (hg : Γ[i]? = some (.own b O)) (h : WS A E (Γ.set i (.val O.pv)) s c Δ) : WS A E Γ s c Δ := fun F T S σ H D Ok R hc d => by
  obtain ⟨a, o, e1, _⟩ := R.own i b O hg
  obtain ⟨l, _, R'⟩ := R.freeze hg e1
  exact h F T _ σ H D Ok R' hc (d.le l)
theorem ws_asg (h : WX A E Γ te c fun Γ1 V c1 => ∃ P, V = .val P ∧ WG Γ1 g P fun Γ2 => Δ.nx Γ2 c1) : WS A E Γ (tAsg te g) c Δ := fun F T S σ H D O R hc d => by
  refine h F T S σ H _ (O σ) R hc fun Γ1 V c1 h1 S1 H1 x R1 l1 p1 hc1 => ?_
  obtain ⟨P, rfl, h1⟩ := h1
  exact h1 F S1 σ H1 x _ R1 p1 fun Γ2 h2 σ2 R2 => d.nx _ _ h2 S1 σ2 H1 R2 l1 hc1
theorem wg_name (hi : i < Γ.length) {κ : Ctx → Prop} (h : κ (Γ.set i (.val P))) : WG Γ (gName i) P κ := fun F S σ H x Q R hp k => k _ h _ (R.setv hp hi)
theorem ws_set (h : WX A E Γ te c fun Γ1 V c1 => ∃ P, V = .val P ∧ i < Γ1.length ∧ Δ.nx (Γ1.set i (.val P)) c1) : WS A E Γ (tAsg te (gName i)) c Δ := ws_asg fun F T S σ H Q O R hc k =>
  h F T S σ H Q O R hc fun Γ1 V c1 ⟨P, e, hi, h1⟩ => k Γ1 V c1 ⟨P, e, wg_name hi h1⟩
/-- the value gets a name -/
theorem ws_setL {α : Type} (t : α → Pv) (h : WX A E Γ te c fun Γ1 V c1 => ∃ x k, V = .val (t x) ∧ i < Γ1.length ∧ c1 = lt x k ∧ ∀ x, Δ.nx (Γ1.set i (.val (t x))) (k x)) : WS A E Γ (tAsg te (gName i)) c Δ := ws_set fun F T S σ H Q O R hc k =>
  h F T S σ H Q O R hc fun Γ1 V c1 ⟨x, l, e, hi, e1, h1⟩ S' H' v R' le hv hc' => k Γ1 V (l x) ⟨_, e, hi, h1 x⟩ S' H' v R' le hv (by rw [e1] at hc'; exact hc')
/-- an own object -/
theorem ws_setO {α : Type} (t : α → Ow) (h : WX A E Γ te c fun Γ1 V c1 => ∃ x k, V = .own (t x) ∧ i < Γ1.length ∧ c1 = lt x k ∧ ∀ x, Δ.nx (Γ1.set i (.own false (t x))) (k x)) : WS A E Γ (tAsg te (gName i)) c Δ := fun F T S σ H D O R hc d => by
  refine h F T S σ H _ (O σ) R hc fun Γ1 V c1 h1 S1 H1 x R1 l1 p1 hc1 => ?_
  obtain ⟨x, k, rfl, hi, rfl, h1⟩ := h1
  obtain ⟨a, o, rfl, q1, q2, q3, q4, q5⟩ := p1
  exact d.nx _ _ (h1 x) S1 _ H1 (R1.seto q1 q2 q3 q4 q5 hi) l1 hc1
theorem ws_ret (h : WX A E Γ te c Δ.rt) : WS A E Γ (tRet te) c Δ := fun F T S σ H D O R hc d =>
  h F T S σ H _ (O σ) R hc fun Γ1 V c1 h1 S1 H1 x R1 l1 p1 hc1 => d.rt _ _ _ h1 S1 σ H1 x R1 l1 p1 hc1
theorem ws_if (h : WT A E Γ tt c fun Γ1 b c1 => ∃ ca cb, c1 = (if b = true then ca else cb) ∧ WS A E Γ1 s ca Δ ∧ WS A E Γ1 s2 cb Δ) : WS A E Γ (tIfS tt s s2) c Δ := fun F T S σ H D O R hc d => by
  refine h F T S σ H _ (O σ) R hc fun Γ1 b c1 h1 S1 H1 R1 l1 hc1 => ?_
  obtain ⟨ca, cb, rfl, ha, hb⟩ := h1
  cases b with
  | true => exact ha F T S1 σ H1 D O R1 hc1 (d.le l1)
  | false => exact hb F T S1 σ H1 D O R1 hc1 (d.le l1)
/-- a block whose outcome has a name -/
theorem ws_blk {μ : Type} (Γj : μ → Ctx) {m : Res μ} {k : μ → Res ρ} (e : c = m.bind k) (h : WS A E Γ s m ⟨fun Γ' c' => ∃ x, c' = .ok x ∧ Sub Γ' (Γj x), fun _ _ _ => False, fun _ _ => False, fun _ _ => False⟩) (h2 : ∀ x, Δ.nx (Γj x) (k x)) : WS A E Γ s c Δ := fun F T S σ H D O R hc d => by
  subst e
  refine h F (fun m => T (m.bind k)) S σ H D (fun σ => ⟨(O σ).nb, (O σ).er⟩) R hc ⟨fun Γ' c' q S' σ' H' R' l hc' => ?_, fun _ _ _ z => z.elim, fun _ _ z => z.elim, fun _ _ z => z.elim⟩
  obtain ⟨x, rfl, sb⟩ := q
  exact d.nx _ _ (h2 x) S' σ' H' (R'.sub sb) l hc'
/-! ### targets -/
theorem wg_tup (n : Nat) {κ : Ctx → Prop} (hn : ps.length = n) (h : WGs Γ gs ps κ) : WG Γ (gTup K n gs) (pTup K ps) κ := fun F S σ H x Q R hp k => by
  obtain ⟨a, vs, rfl, hs, hv, hl⟩ := hp
  exact ⟨a, vs, rfl, hs, by rw [hv.length, hn], h F S σ H vs Q R hv k⟩
theorem wgs_nil {κ : Ctx → Prop} (h : κ Γ) : WGs Γ gNil [] κ := fun F S σ H xs Q R hp k => by
  match xs, hp with
  | [], _ => exact ⟨rfl, k _ h σ R⟩
theorem wgs_cons {κ : Ctx → Prop} (h : WG Γ g P fun Γ1 => WGs Γ1 gs ps κ) : WGs Γ (gCons g gs) (P :: ps) κ := fun F S σ H xs Q R hp k => by
  match xs, hp with
  | v :: vs, hp => exact ⟨v, vs, rfl, h F S σ H v _ R hp.1 fun Γ1 h1 σ1 R1 => h1 F S σ1 H vs Q R1 hp.2 k⟩
/-! ### what is walked -/
theorem itl_ok {F : Fr} {S : Fz} {H : Hp} {a : Addr} {vs : List V} (h1 : LsF K S H a vs) (h2 : PsOk S H vs ps) (h3 : vs.length ≤ sizeLine) : ItOk F (Itl K a) ps S H := ⟨h2.length ▸ h3, fun S1 H1 l _ => by
  have q := (le_lsF l h1).1
  have w := walk_list (K := K) (a := a) (xs := vs)
  have e := h2.length
  refine ⟨fun i hi => w.goes i H1 (by rw [e]; exact hi) q, by rw [← e]; exact w.stops H1 q, fun i x H' hi y => ?_⟩
  obtain ⟨rfl, hx⟩ := w.yields i H1 x H' (by rw [e]; exact hi) q y
  obtain ⟨P, h3, h4⟩ := (h2.up l).at hx
  exact ⟨P, h3, .inl rfl, h4⟩⟩
theorem itt_ok {F : Fr} {S : Fz} {H : Hp} {a : Addr} {vs : List V} (h1 : SqT K H a vs) (h2 : PsOk S H vs ps) (h3 : vs.length ≤ sizeLine) : ItOk F (Itt K a) ps S H := ⟨h2.length ▸ h3, fun S1 H1 l _ => by
  have q := le_sqT l h1
  have w := walk_tup (K := K) (a := a) (xs := vs)
  have e := h2.length
  refine ⟨fun i hi => w.goes i H1 (by rw [e]; exact hi) q, by rw [← e]; exact w.stops H1 q, fun i x H' hi y => ?_⟩
  obtain ⟨rfl, hx⟩ := w.yields i H1 x H' (by rw [e]; exact hi) q y
  obtain ⟨P, h3, h4⟩ := (h2.up l).at hx
  exact ⟨P, h3, .inl rfl, h4⟩⟩
theorem wi_list (h : WX A E Γ te c fun Γ1 V c1 => ∃ ps, V = .val (pLst K ps) ∧ κi Γ1 ps c1) : WI A E Γ (iList K te) c κi := fun F T S σ H Q O R hc k => by
  refine h F T S σ H _ O R hc fun Γ1 V c1 h1 S1 H1 x R1 l1 p1 hc1 => ?_
  obtain ⟨ps, rfl, h1⟩ := h1
  obtain ⟨a, vs, rfl, hs, hv, hl⟩ := p1
  exact ⟨a, rfl, ⟨_, hs.1⟩, k _ _ _ h1 S1 H1 _ R1 l1 hc1 (itl_ok hs hv hl)⟩
theorem wi_tup (h : WX A E Γ te c fun Γ1 V c1 => ∃ ps, V = .val (pTup K ps) ∧ κi Γ1 ps c1) : WI A E Γ (iTup K te) c κi := fun F T S σ H Q O R hc k => by
  refine h F T S σ H _ O R hc fun Γ1 V c1 h1 S1 H1 x R1 l1 p1 hc1 => ?_
  obtain ⟨ps, rfl, h1⟩ := h1
  obtain ⟨a, vs, rfl, hs, hv, hl⟩ := p1
  exact ⟨a, rfl, ⟨_, hs⟩, k _ _ _ h1 S1 H1 _ R1 l1 hc1 (itt_ok hs hv hl)⟩
theorem wi_seq (hg : Γ[i]? = some (.val (pSeq K ps))) (h : κi Γ ps c) : WI A E Γ (fun σ H R => iList K (tVar i) σ H R ∨ iTup K (tVar i) σ H R) c κi := fun F T S σ H Q O R hc k => by
  obtain ⟨v, e, hv⟩ := R.val i _ hg
  rcases hv with ⟨a, vs, rfl, hs, hv, hl⟩ | ⟨a, vs, rfl, hs, hv, hl⟩
  · exact .inl ⟨_, e, a, rfl, ⟨_, hs.1⟩, k _ _ _ h S H _ R Le.refl hc (itl_ok hs hv hl)⟩
  · exact .inr ⟨_, e, a, rfl, ⟨_, hs⟩, k _ _ _ h S H _ R Le.refl hc (itt_ok hs hv hl)⟩
def rng (lo : Int) (n : Nat) : List Int := (List.range n).map fun (k : Nat) => lo + (k : Int)
theorem itr_ok {F : Fr} {S : Fz} {H : Hp} {lo : Int} {n : Nat} (hn : n ≤ 100000) : ItOk F (Itr lo n) ((rng lo n).map yInt) S H := by
  have e : ((rng lo n).map yInt).length = n := by simp [rng]
  unfold ItOk
  rw [e]
  refine ⟨sz hn, fun S1 H1 l _ => ?_⟩
  refine ⟨fun i hi => hi, Nat.le_refl _, fun i x H' hi y => ⟨yInt (lo + i), ?_, .inl y.1, y.2⟩⟩
  simp [rng, hi]
/-- the numbers of a range must not be too large -/
theorem wi_rng1 (h : WA A E Γ tr c fun Γ1 gs c1 => ∃ n : Int, ∃ k', gs = [.val (yInt n)] ∧ c1 = (guard (-40000 ≤ n ∧ n ≤ 40000)).bind k' ∧ κi Γ1 ((rng 0 n.toNat).map yInt) (k' ())) : WI A E Γ (iRng1 tr) c κi := fun F T S σ H Q O R hc k => by
  refine h F T S σ H _ O R hc fun Γ1 gs c1 h1 S1 H1 xs R1 l1 p1 hc1 => ?_
  obtain ⟨n, k', rfl, rfl, h1⟩ := h1
  match xs, p1 with
  | [v], p1 =>
    have e : v = .int n := p1.1
    subst e
    unfold guard at hc1
    by_cases z : -40000 ≤ n ∧ n ≤ 40000
    · rw [if_pos z] at hc1
      exact ⟨n, rfl, by omega, by omega, k _ _ _ h1 S1 H1 _ R1 l1 hc1 (itr_ok (by omega))⟩
    · rw [if_neg z] at hc1
      exact absurd hc1 O.nb
theorem wi_rng2 (h : WA A E Γ tr c fun Γ1 gs c1 => ∃ m n : Int, ∃ k', gs = [.val (yInt m), .val (yInt n)] ∧ c1 = (guard (-40000 ≤ m ∧ m ≤ 40000 ∧ -40000 ≤ n ∧ n ≤ 40000)).bind k' ∧ κi Γ1 ((rng m (n - m).toNat).map yInt) (k' ())) : WI A E Γ (iRng2 tr) c κi := fun F T S σ H Q O R hc k => by
  refine h F T S σ H _ O R hc fun Γ1 gs c1 h1 S1 H1 xs R1 l1 p1 hc1 => ?_
  obtain ⟨m, n, k', rfl, rfl, h1⟩ := h1
  match xs, p1 with
  | [v, w], p1 =>
    have e : v = .int m := p1.1
    subst e
    have e : w = .int n := p1.2.1
    subst e
    unfold guard at hc1
    by_cases z : -40000 ≤ m ∧ m ≤ 40000 ∧ -40000 ≤ n ∧ n ≤ 40000
    · rw [if_pos z] at hc1
      exact ⟨m, n, rfl, ⟨by omega, by omega, by omega, by omega⟩, k _ _ _ h1 S1 H1 _ R1 l1 hc1 (itr_ok (by omega))⟩
    · rw [if_neg z] at hc1
      exact absurd hc1 O.nb
/-! ### loops -/
theorem ItOk.walk {F : Fr} {J : It} {S : Fz} {H : Hp} (h : ItOk F J ps S H) : Walk J ps.length (fun H' => ∃ S', Le S H S' H' ∧ FrOk F S' H') (fun i H1 x H' => ∃ P, ps[i]? = some P ∧ (H' = H1 ∨ ∃ p o, H1 p = none ∧ H' = upd H1 p o) ∧ ∀ S', Le S H S' H1 → FrOk F S' H1 → P.p S' H' x) :=
  ⟨fun i H1 hi ⟨S', l, f⟩ => (h.2 S' H1 l f).1 i hi, fun H1 ⟨S', l, f⟩ => (h.2 S' H1 l f).2.1, fun i H1 x H' hi ⟨S', l, f⟩ y => by
    obtain ⟨P, h1, h2, h3⟩ := (h.2 S' H1 l f).2.2 i x H' hi y
    refine ⟨P, h1, h2, fun S2 l2 f2 => ?_⟩
    obtain ⟨P', h1', _, h3'⟩ := (h.2 S2 H1 l2 f2).2.2 i x H' hi y
    rw [h1] at h1'; cases h1'
    exact h3'⟩
theorem pfold_drop {σ α : Type} {f : σ → α → Res σ} {xs : List α} {i : Nat} {x : α} {s : σ} (h : xs[i]? = some x) : pfold f s (xs.drop i) = (f s x).bind fun s' => pfold f s' (xs.drop (i + 1)) := by
  have hi : i < xs.length := (List.getElem?_eq_some_iff.mp h).1
  rw [List.drop_eq_getElem_cons hi, (List.getElem?_eq_some_iff.mp h).2]
  rfl
theorem map_at {α β : Type} {f : α → β} {xs : List α} {i : Nat} {y : β} (h : (xs.map f)[i]? = some y) : ∃ x, xs[i]? = some x ∧ y = f x := by
  rw [List.getElem?_map] at h
  obtain ⟨x, h1, h2⟩ := Option.map_eq_some_iff.mp h
  exact ⟨x, h1, h2.symm⟩
theorem Rel.alloc {F : Fr} {S : Fz} {σ : L2.St} {H H' : Hp} (R : Rel F Γ S σ H) (h : H' = H ∨ ∃ p o, H p = none ∧ H' = upd H p o) : Rel F Γ S σ H' ∧ Le S H S H' := by
  rcases h with rfl | ⟨p, o, hp, rfl⟩
  · exact ⟨R, Le.refl⟩
  · exact ⟨R.new hp, le_new hp⟩
/-- the turns of a loop -/
theorem for_core {F : Fr} {T : Res ρ → Prop} {S1 : Fz} {σ : L2.St} {H1 : Hp} {Γ1 : Ctx} {J : It} {D : Ends} {μ α : Type} {t : α → Pv} {f : μ → α → Res μ} {Γs : μ → Ctx} {xs : List α} {s0 : μ} {k : μ → Res ρ} (O : ∀ σ, Ok0 A (E σ) F T) (R1 : Rel F Γ1 S1 σ H1) (hc1 : T ((pfold f s0 xs).bind k)) (it : ItOk F J (xs.map t) S1 H1) (sb : Sub Γ1 (Γs s0))
      (hb : ∀ s x, WG (Γs s) g (t x) fun Γ2 => WS A E Γ2 tb' (f s x) ⟨fun Γ' c' => ∃ s', c' = .ok s' ∧ Sub Γ' (Γs s'), fun _ _ _ => False, fun _ _ => False, fun Γ' c' => ∃ s', c' = .ok s' ∧ Sub Γ' (Γs s')⟩)
      (hd : ∀ s S2 σ2 H2, Rel F (Γs s) S2 σ2 H2 → Le S1 H1 S2 H2 → T (k s) → D.nx σ2 H2) :
    ∃ W : Nat → Nat → L2.St → Hp → Prop, (∃ m, W 0 m σ H1) ∧ ∀ i m σ H, W i m σ H →
      (J.stop i H ∧ D.nx σ H) ∨ (J.go i H ∧ ∃ N : L2.St → Hp → Prop, (∀ σ' H', N σ' H' → ∃ m', m' < m ∧ W (i + 1) m' σ' H') ∧ ∀ x H', J.yld i H x H' → g x σ H' fun σ2 H2 => tb' { D with nx := N, ct := N, bk := D.nx } σ2 H2) := by
  refine for_it it.walk (fun i σ' H' => ∃ s S', Rel F (Γs s) S' σ' H' ∧ Le S1 H1 S' H' ∧ T ((pfold f s (xs.drop i)).bind k)) ⟨s0, S1, R1.sub sb, Le.refl, hc1⟩ (fun i σ' H' _ ⟨_, S', R, l, _⟩ => ⟨S', l, R.fr⟩) ?_ ?_
  · rintro i x σ2 H2 H3 hi ⟨s, S2, R2, l2, hc2⟩ ⟨P, hP, hal, hp⟩
    obtain ⟨y, hy, rfl⟩ := map_at hP
    obtain ⟨R3, l3⟩ := R2.alloc hal
    rw [pfold_drop hy, bind_assoc] at hc2
    refine hb s y F S2 σ2 H3 x _ R3 (hp S2 l2 R2.fr) fun Γ4 h4 σ4 R4 => ?_
    refine h4 F (fun m => T (m.bind fun s' => (pfold f s' (xs.drop (i + 1))).bind k)) S2 σ4 H3 _ (fun σ => ⟨(O σ).nb, (O σ).er⟩) R4 hc2 ⟨?_, fun _ _ _ z => z.elim, fun _ _ z => z.elim, ?_⟩
    · rintro Γ' c' ⟨s', rfl, sb'⟩ S' σ' H' R' l' hc'
      exact ⟨s', S', R'.sub sb', (l2.trans l3).trans l', hc'⟩
    · rintro Γ' c' ⟨s', rfl, sb'⟩ S' σ' H' R' l' hc'
      exact ⟨s', S', R'.sub sb', (l2.trans l3).trans l', hc'⟩
  · rintro σ2 H2 ⟨s, S2, R2, l2, hc2⟩
    rw [List.length_map, List.drop_length] at hc2
    exact hd s S2 σ2 H2 R2 l2 hc2
theorem ws_for {w : TI} {μ α : Type} (t : α → Pv) (h : WI A E Γ w c fun Γ1 ps c1 => ∃ (f : μ → α → Res μ) (Γs : μ → Ctx) (xs : List α) (s0 : μ) (k : μ → Res ρ), ps = xs.map t ∧ c1 = (pfold f s0 xs).bind k ∧ Sub Γ1 (Γs s0) ∧
      (∀ s x, WG (Γs s) g (t x) fun Γ2 => WS A E Γ2 tb' (f s x) ⟨fun Γ' c' => ∃ s', c' = .ok s' ∧ Sub Γ' (Γs s'), fun _ _ _ => False, fun _ _ => False, fun Γ' c' => ∃ s', c' = .ok s' ∧ Sub Γ' (Γs s')⟩) ∧ ∀ s, Δ.nx (Γs s) (k s)) : WS A E Γ (tFor w g tb') c Δ := fun F T S σ H D O R hc d => by
  refine h F T S σ H _ (O σ) R hc fun Γ1 ps c1 h1 S1 H1 J R1 l1 hc1 it => ?_
  obtain ⟨f, Γs, xs, s0, k, rfl, rfl, sb, hb, hk⟩ := h1
  exact for_core O R1 hc1 it sb hb fun s S2 σ2 H2 R2 l2 hc2 => d.nx _ _ (hk s) S2 σ2 H2 R2 (l1.trans l2) hc2
theorem pfor_drop {σ τ α : Type} {f : σ → α → Res (Fl σ τ)} {xs : List α} {i : Nat} {x : α} {s : σ} (h : xs[i]? = some x) : pfor f s (xs.drop i) = (f s x).bind (pnext fun s' => pfor f s' (xs.drop (i + 1))) := by
  have hi : i < xs.length := (List.getElem?_eq_some_iff.mp h).1
  rw [List.drop_eq_getElem_cons hi, (List.getElem?_eq_some_iff.mp h).2]
  rfl
theorem for_coreF {F : Fr} {T : Res ρ → Prop} {S1 : Fz} {σ : L2.St} {H1 : Hp} {Γ1 : Ctx} {J : It} {D : Ends} {μ α τ : Type} {t : α → Pv} {f : μ → α → Res (Fl μ τ)} {Γs : μ → Ctx} {xs : List α} {s0 : μ} {k : μ → Res ρ} {jr : τ → Res ρ} {Rt : Ctx → Vo → Res ρ → Prop} (O : ∀ σ, Ok0 A (E σ) F T) (R1 : Rel F Γ1 S1 σ H1) (hc1 : T ((pfor f s0 xs).thn k jr)) (it : ItOk F J (xs.map t) S1 H1) (sb : Sub Γ1 (Γs s0))
      (hb : ∀ s x, WG (Γs s) g (t x) fun Γ2 => WS A E Γ2 tb' (f s x) ⟨fun Γ' c' => ∃ s', c' = .ok (.nx s') ∧ Sub Γ' (Γs s'), fun Γ' V c' => ∃ r, c' = .ok (.rt r) ∧ Rt Γ' V (jr r), fun Γ' c' => ∃ s', c' = .ok (.br s') ∧ Sub Γ' (Γs s'), fun Γ' c' => ∃ s', c' = .ok (.nx s') ∧ Sub Γ' (Γs s')⟩)
      (hd : ∀ s S2 σ2 H2, Rel F (Γs s) S2 σ2 H2 → Le S1 H1 S2 H2 → T (k s) → D.nx σ2 H2)
      (hr : ∀ Γ' V c', Rt Γ' V c' → ∀ S' σ' H' v, Rel F Γ' S' σ' H' → Le S1 H1 S' H' → V.is F Γ' σ' S' H' v → T c' → D.rt v H') :
    ∃ W : Nat → Nat → L2.St → Hp → Prop, (∃ m, W 0 m σ H1) ∧ ∀ i m σ H, W i m σ H →
      (J.stop i H ∧ D.nx σ H) ∨ (J.go i H ∧ ∃ N : L2.St → Hp → Prop, (∀ σ' H', N σ' H' → ∃ m', m' < m ∧ W (i + 1) m' σ' H') ∧ ∀ x H', J.yld i H x H' → g x σ H' fun σ2 H2 => tb' { D with nx := N, ct := N, bk := D.nx } σ2 H2) := by
  refine for_it it.walk (fun i σ' H' => ∃ s S', Rel F (Γs s) S' σ' H' ∧ Le S1 H1 S' H' ∧ T ((pfor f s (xs.drop i)).thn k jr)) ⟨s0, S1, R1.sub sb, Le.refl, hc1⟩ (fun i σ' H' _ ⟨_, S', R, l, _⟩ => ⟨S', l, R.fr⟩) ?_ ?_
  · rintro i x σ2 H2 H3 hi ⟨s, S2, R2, l2, hc2⟩ ⟨P, hP, hal, hp⟩
    obtain ⟨y, hy, rfl⟩ := map_at hP
    obtain ⟨R3, l3⟩ := R2.alloc hal
    rw [pfor_drop hy, Res.thn, bind_assoc] at hc2
    refine hb s y F S2 σ2 H3 x _ R3 (hp S2 l2 R2.fr) fun Γ4 h4 σ4 R4 => ?_
    refine h4 F (fun m => T (m.bind fun a => (pnext (fun s' => pfor f s' (xs.drop (i + 1))) a).bind (pafter k jr))) S2 σ4 H3 _ (fun σ => ⟨(O σ).nb, (O σ).er⟩) R4 hc2 ⟨?_, ?_, ?_, ?_⟩
    · rintro Γ' c' ⟨s', rfl, sb'⟩ S' σ' H' R' l' hc'
      exact ⟨s', S', R'.sub sb', (l2.trans l3).trans l', hc'⟩
    · rintro Γ' V c' ⟨r, rfl, q⟩ S' σ' H' v R' l' hv hc'
      exact hr _ _ _ q S' σ' H' v R' ((l2.trans l3).trans l') hv hc'
    · rintro Γ' c' ⟨s', rfl, sb'⟩ S' σ' H' R' l' hc'
      exact hd s' S' σ' H' (R'.sub sb') ((l2.trans l3).trans l') hc'
    · rintro Γ' c' ⟨s', rfl, sb'⟩ S' σ' H' R' l' hc'
      exact ⟨s', S', R'.sub sb', (l2.trans l3).trans l', hc'⟩
  · rintro σ2 H2 ⟨s, S2, R2, l2, hc2⟩
    rw [List.length_map, List.drop_length] at hc2
    exact hd s S2 σ2 H2 R2 l2 hc2
theorem ws_forF {w : TI} {μ α τ : Type} (t : α → Pv) (h : WI A E Γ w c fun Γ1 ps c1 => ∃ (f : μ → α → Res (Fl μ τ)) (Γs : μ → Ctx) (xs : List α) (s0 : μ) (k : μ → Res ρ) (jr : τ → Res ρ), ps = xs.map t ∧ c1 = (pfor f s0 xs).thn k jr ∧ Sub Γ1 (Γs s0) ∧
      (∀ s x, WG (Γs s) g (t x) fun Γ2 => WS A E Γ2 tb' (f s x) ⟨fun Γ' c' => ∃ s', c' = .ok (.nx s') ∧ Sub Γ' (Γs s'), fun Γ' V c' => ∃ r, c' = .ok (.rt r) ∧ Δ.rt Γ' V (jr r), fun Γ' c' => ∃ s', c' = .ok (.br s') ∧ Sub Γ' (Γs s'), fun Γ' c' => ∃ s', c' = .ok (.nx s') ∧ Sub Γ' (Γs s')⟩) ∧ ∀ s, Δ.nx (Γs s) (k s)) : WS A E Γ (tFor w g tb') c Δ := fun F T S σ H D O R hc d => by
  refine h F T S σ H _ (O σ) R hc fun Γ1 ps c1 h1 S1 H1 J R1 l1 hc1 it => ?_
  obtain ⟨f, Γs, xs, s0, k, jr, rfl, rfl, sb, hb, hk⟩ := h1
  exact for_coreF O R1 hc1 it sb hb (fun s S2 σ2 H2 R2 l2 hc2 => d.nx _ _ (hk s) S2 σ2 H2 R2 (l1.trans l2) hc2) fun Γ' V c' q S' σ' H' v R' l' => d.rt Γ' V c' q S' σ' H' v R' (l1.trans l')
end
end Mi
namespace Mi
open PySem PySem.Spec PyProof.Rows L2
open Sl (isTup sz szl)
/-! ### regions: a part of the walk under a frame of its own -/
def Fr.at (F : Fr) (S : Fz) (H : Hp) (I : Fz) : Fr := ⟨S, H, I, F.ad⟩
/-- owned slots are not spoken of -/
def valsC : Ctx → Ctx
  | [] => []
  | .own _ _ :: Γ => .any :: valsC Γ
  | x :: Γ => x :: valsC Γ
def wipeC (Γ : Ctx) : List Nat → Ctx
  | [] => Γ
  | v :: vs => (wipeC Γ vs).set v .any
section
variable {F : Fr} {Γ Γ' : Ctx} {S S' S2 : Fz} {σ σ2 : L2.St} {H H' H2 : Hp} {p a : Addr} {o o' : HO} {i : Nat} {v : V} {P : Pv} {O O' : Ow} {b : Bool}
theorem valsC_len : ∀ Γ : Ctx, (valsC Γ).length = Γ.length
  | [] => rfl
  | .own _ _ :: Γ => congrArg Nat.succ (valsC_len Γ)
  | .any :: Γ => congrArg Nat.succ (valsC_len Γ)
  | .val _ :: Γ => congrArg Nat.succ (valsC_len Γ)
theorem valsC_at : ∀ {Γ : Ctx} {i : Nat} {x : Slt}, (valsC Γ)[i]? = some x → x = .any ∨ (Γ[i]? = some x ∧ ∀ b O, x ≠ .own b O)
  | [], _, _, h => by simp [valsC] at h
  | .own _ _ :: Γ, 0, x, h => by simp [valsC] at h; exact .inl h.symm
  | .any :: Γ, 0, x, h => by simp [valsC] at h; exact .inl h.symm
  | .val _ :: Γ, 0, x, h => by
    simp only [valsC, List.getElem?_cons_zero] at h
    exact .inr ⟨h, fun b O z => by rw [z] at h; cases h⟩
  | .own _ _ :: Γ, i + 1, x, h => valsC_at (Γ := Γ) (i := i) (by simpa [valsC] using h)
  | .any :: Γ, i + 1, x, h => valsC_at (Γ := Γ) (i := i) (by simpa [valsC] using h)
  | .val _ :: Γ, i + 1, x, h => valsC_at (Γ := Γ) (i := i) (by simpa [valsC] using h)
theorem Rel.wipe (R : Rel F Γ S σ H) : ∀ (vs : List Nat), Rel F (wipeC Γ vs) S (L2.wipe σ vs) H
  | [] => R
  | v :: vs => (Rel.wipe R vs).wipe1 none (.inr (.inr trivial))
theorem Rel.vals (R : Rel F Γ S σ H) : Rel F (valsC Γ) S σ H where
  fr := R.fr
  len := R.len.trans (valsC_len Γ).symm
  val := fun i P h => (valsC_at h).elim (fun z => nomatch z) fun z => R.val i P z.1
  own := fun i b O h => (valsC_at h).elim (fun z => nomatch z) fun z => absurd rfl (z.2 b O)
  sep := fun i j b b' O O' a h _ => (valsC_at h).elim (fun z => nomatch z) fun z => absurd rfl (z.2 b O)
/-- only values: any frame -/
theorem Rel.into (R : Rel F (valsC Γ) S σ H) (l : Le S H S' H') (sd : ∀ a, S' a → H' a ≠ none) (I : Fz) : Rel (F.at S' H' I) (valsC Γ) S' σ H' where
  fr := ⟨fun _ _ h _ => h, fun _ h => .inl h, fun _ h => h, fun _ h => h, sd⟩
  len := R.len
  val := fun i P h => by
    obtain ⟨v, e, hv⟩ := R.val i P h
    exact ⟨v, e, P.up l hv⟩
  own := fun i b O h => (valsC_at h).elim (fun z => nomatch z) fun z => absurd rfl (z.2 b O)
  sep := fun i j b b' O O' a h _ => (valsC_at h).elim (fun z => nomatch z) fun z => absurd rfl (z.2 b O)
/-- behind a region that touched nothing of what stood -/
theorem Rel.back {ad : Nat → Addr} (R : Rel F Γ S σ H) (l : Le S H S' H') (f : FrOk ⟨S, H, fun _ => False, ad⟩ S' H') : Rel F Γ S' σ H' :=
  R.move l (fun a o h _ => f.kp a o h fun z => z) (fun a h => (f.fz a h).imp id fun z => z.elim id fun z => z.elim) f.sd (fun a h => f.dm a h)
    fun i b O a o _ _ h1 h2 => ⟨o, f.kp a o h1 fun z => z, O.up l h2⟩
/-- a region with what is held -/
theorem Rel.enter (R : Rel F Γ S σ H) : Rel (F.at S H (Held Γ σ)) Γ S σ H where
  fr := ⟨fun _ _ h _ => h, fun _ h => .inl h, fun _ h => h, fun _ h => h, R.fr.sd⟩
  len := R.len
  val := R.val
  own := fun i b O h => by
    obtain ⟨a, o, e1, e2, e3, e4, e5, e6⟩ := R.own i b O h
    exact ⟨a, o, e1, e2, e3, e4, .inl ⟨i, b, O, h, e1⟩, e6⟩
  sep := R.sep
theorem Rel.leave (R : Rel F Γ S σ H) (R' : Rel (F.at S H (Held Γ σ)) Γ' S' σ2 H') : Rel F Γ' S' σ2 H' := by
  have hI : ∀ a, Held Γ σ a → F.I a ∨ F.H0 a = none := fun a ⟨i, b, O, h1, h2⟩ => by
    obtain ⟨a', o, e1, _, _, _, e5, _⟩ := R.own i b O h1
    rw [h2] at e1; cases e1
    exact e5
  refine ⟨⟨fun a o h n => R'.fr.kp a o (R.fr.kp a o h n) fun z => (hI a z).elim n (fun z => by rw [z] at h; cases h), fun a h => ?_, fun a h => R'.fr.le a (R.fr.le a h), fun a h => R'.fr.dm a (R.fr.dm a h), R'.fr.sd⟩, R'.len, R'.val, fun i b O h => ?_, R'.sep⟩
  · rcases R'.fr.fz a h with h | h | h
    · exact R.fr.fz a h
    · exact .inr (.inl (R.fr.fresh h))
    · exact (hI a h).elim (fun z => .inr (.inr z)) fun z => .inr (.inl z)
  · obtain ⟨a, o, e1, e2, e3, e4, e5, e6⟩ := R'.own i b O h
    exact ⟨a, o, e1, e2, e3, e4, e5.elim (hI a) fun z => .inr (R.fr.fresh z), e6⟩
theorem FrOk.leave {F : Fr} (R : Rel F Γ S σ H) {ad : Nat → Addr} (f : FrOk ⟨S, H, Held Γ σ, ad⟩ S' H') : FrOk F S' H' := by
  have hI : ∀ a, Held Γ σ a → F.I a ∨ F.H0 a = none := fun a ⟨i, b, O, h1, h2⟩ => by
    obtain ⟨a', o, e1, _, _, _, e5, _⟩ := R.own i b O h1
    rw [h2] at e1; cases e1
    exact e5
  refine ⟨fun a o h n => f.kp a o (R.fr.kp a o h n) fun z => (hI a z).elim n (fun z => by rw [z] at h; cases h), fun a h => ?_, fun a h => f.le a (R.fr.le a h), fun a h => f.dm a (R.fr.dm a h), f.sd⟩
  rcases f.fz a h with h | h | h
  · exact R.fr.fz a h
  · exact .inr (.inl (R.fr.fresh h))
  · exact (hI a h).elim (fun z => .inr (.inr z)) fun z => .inr (.inl z)
end
/-- a target of a comprehension's own names -/
structure GK (g : TG) (vs : List Nat) : Prop where
  mono : ∀ (x : V) (σ : L2.St) (H : Hp) (Q Q' : L2.St → Hp → Prop), (∀ σ' H', Q σ' H' → Q' σ' H') → g x σ H Q → g x σ H Q'
  keep : ∀ (x : V) (σ : L2.St) (H : Hp) (Q : L2.St → Hp → Prop), g x σ H Q → g x σ H fun σ' H' => (L2.wipe σ' vs = L2.wipe σ vs ∧ σ'.length = σ.length) ∧ Q σ' H'
structure GKs (g : TGs) (vs : List Nat) : Prop where
  mono : ∀ (x : List V) (σ : L2.St) (H : Hp) (Q Q' : L2.St → Hp → Prop), (∀ σ' H', Q σ' H' → Q' σ' H') → g x σ H Q → g x σ H Q'
  keep : ∀ (x : List V) (σ : L2.St) (H : Hp) (Q : L2.St → Hp → Prop), g x σ H Q → g x σ H fun σ' H' => (L2.wipe σ' vs = L2.wipe σ vs ∧ σ'.length = σ.length) ∧ Q σ' H'
theorem wipe_set_out {σ : L2.St} {j : Nat} {y : Option V} : ∀ {vs : List Nat}, j ∉ vs → L2.wipe (σ.set j y) vs = (L2.wipe σ vs).set j y
  | [], _ => rfl
  | v :: vs, h => by
    simp only [List.mem_cons, not_or] at h
    rw [L2.wipe, L2.wipe, wipe_set_out h.2, List.set_comm _ _ h.1]
theorem wipe_set {σ : L2.St} {j : Nat} {y : Option V} : ∀ {vs : List Nat}, j ∈ vs → L2.wipe (σ.set j y) vs = L2.wipe σ vs
  | v :: vs, h => by
    by_cases z : j ∈ vs
    · rw [L2.wipe, L2.wipe, wipe_set z]
    · have e : j = v := (List.mem_cons.mp h).resolve_right z
      subst e
      rw [L2.wipe, L2.wipe, wipe_set_out z, List.set_set]
theorem gk_name {j : Nat} {vs : List Nat} (h : j ∈ vs) : GK (gName j) vs := ⟨fun x σ H Q Q' k q => k _ _ q, fun x σ H Q q => ⟨⟨wipe_set h, List.length_set⟩, q⟩⟩
theorem gks_nil {vs : List Nat} : GKs gNil vs := ⟨fun x σ H Q Q' k q => ⟨q.1, k _ _ q.2⟩, fun x σ H Q q => ⟨q.1, ⟨rfl, rfl⟩, q.2⟩⟩
theorem gks_cons {g : TG} {gs : TGs} {vs : List Nat} (h : GK g vs) (k : GKs gs vs) : GKs (gCons g gs) vs :=
  ⟨fun x σ H Q Q' m ⟨v, r, e, q⟩ => ⟨v, r, e, h.mono _ _ _ _ _ (fun σ' H' q => k.mono _ _ _ _ _ m q) q⟩, fun x σ H Q ⟨v, r, e, q⟩ => ⟨v, r, e, h.mono _ _ _ _ _ (fun σ' H' q => k.mono _ _ _ _ _ (fun σ2 H2 q2 => ⟨⟨q2.1.1.trans q.1.1, q2.1.2.trans q.1.2⟩, q2.2⟩) (k.keep _ _ _ _ q.2)) (h.keep _ _ _ _ q)⟩⟩
theorem gk_tup {K : PySem.W.Frag} {n : Nat} {gs : TGs} {vs : List Nat} (k : GKs gs vs) : GK (gTup K n gs) vs :=
  ⟨fun x σ H Q Q' m ⟨a, xs, e, h1, h2, q⟩ => ⟨a, xs, e, h1, h2, k.mono _ _ _ _ _ m q⟩, fun x σ H Q ⟨a, xs, e, h1, h2, q⟩ => ⟨a, xs, e, h1, h2, k.keep _ _ _ _ q⟩⟩
/-- nothing is wanted of an exception -/
def ET : L2.St → XK := fun _ _ _ _ => True
theorem erT (A : Nat → Addr) {e : Er} {H : Hp} {σ : L2.St} : ErH A e (ET σ) H := by
  unfold ErH
  split
  · trivial
  · exact fun _ _ _ => trivial
  · exact fun _ _ _ => trivial
theorem ok_unit (A : Nat → Addr) (E : XK) (F : Fr) : Ok0 A E F (fun m : Res Unit => m = .ok ()) := ⟨(fun z => nomatch z), fun e z => nomatch z⟩
section
variable {ρ : Type} {A : Nat → Addr} {E : L2.St → XK} {K : PySem.W.Frag} {Γ : Ctx} {c : Res ρ} {κ : Ctx → Vo → Res ρ → Prop} {te : TE} {tt : TT} {g : TG} {w : TI} {vs : List Nat}
/-! ### comprehensions -/
theorem wipe_sub {σ : L2.St} {vs : List Nat} : ∀ {us : List Nat}, (∀ u ∈ us, u ∈ vs) → L2.wipe (L2.wipe σ us) vs = L2.wipe σ vs
  | [], _ => rfl
  | u :: us, h => by rw [L2.wipe, wipe_set (h u (List.mem_cons_self ..)), wipe_sub fun x hx => h x (List.mem_cons_of_mem _ hx)]
theorem take_step {α β : Type} {xs : List α} {i : Nat} {y : α} (p : α → Bool) (e : α → β) (hy : xs[i]? = some y) : ((xs.take (i + 1)).filter p).map e = ((xs.take i).filter p).map e ++ (if p y = true then [e y] else []) := by
  rw [List.take_add_one, hy, List.filter_append, List.map_append]
  cases z : p y <;> simp [z]
theorem comp0 {F : Fr} {S S' : Fz} {H H' : Hp} (R : FrOk F S H) (f : FrOk ⟨S, H, fun _ => False, F.ad⟩ S' H') : FrOk F S' H' := by
  refine ⟨fun a o h n => f.kp a o (R.kp a o h n) fun z => z, fun a h => ?_, fun a h => f.le a (R.le a h), fun a h => f.dm a (R.dm a h), f.sd⟩
  rcases f.fz a h with h | h | h
  · exact R.fz a h
  · exact .inr (.inl (R.fresh h))
  · exact h.elim
/-- plain parts -/
theorem wx_lc {α β : Type} (t : α → Pv) (u : β → Pv) (p : α → Bool) (e : α → β) (gk : GK g vs) (h : WI A E Γ w c fun Γ1 ps c1 => ∃ xs : List α, ps = xs.map t ∧
      (∀ x, WG (valsC (wipeC Γ1 vs)) g (t x) fun Γ2 => WT A ET Γ2 tt (.ok () : Res Unit) fun Γ3 b c3 => b = p x ∧ (b = true → WX A ET Γ3 te c3 fun Γ4 V c4 => V = .val (u (e x)))) ∧ κ Γ1 (.own (oLst K (((xs.filter p).map e).map u))) c1) : WX A E Γ (tLc w g tt te vs) c κ := fun F T S σ H Q O R hc k => by
  refine h F T S σ H _ O R hc fun Γ1 ps c1 h1 S1 H1 J R1 l1 hc1 it D hD => ?_
  obtain ⟨xs, rfl, hb, hk⟩ := h1
  have hD0 : ¬ S1 D := R1.fr.nfz hD
  have RV := (R1.wipe vs).vals
  have hlen : xs.length ≤ sizeLine := by have := it.1; rwa [List.length_map] at this
  refine lc_it it.walk (fun i H' => ∃ S', FrOk ⟨S1, H1, fun _ => False, F.ad⟩ S' H' ∧ Le S1 H1 S' H' ∧ ¬ S' D ∧ ∃ acc, H' D = some (.lst acc) ∧ PsOk S' H' acc ((((xs.take i).filter p).map e).map u) ∧ acc.length ≤ i) ?_ (fun i H' _ ⟨S', f, l, _⟩ => ⟨S', l, comp0 R1.fr f⟩) ?_ ?_
  · refine ⟨S1, ⟨fun a o h _ => by rw [upd_ne (ne_of_none h hD)]; exact h, fun a h => .inl h, fun a h => h, fun a h => upd_some h, fun a h => upd_some (R1.fr.sd a h)⟩, le_new hD, hD0, [], upd_same, trivial, Nat.le_refl _⟩
  · rintro i x H2 H3 hi ⟨S2, f2, l2, n2, acc, a1, a2, a3⟩ ⟨P, hP, hal, hp⟩
    obtain ⟨y, hy, rfl⟩ := map_at hP
    have R2 := RV.into l2 f2.sd fun _ => False
    obtain ⟨R3, l3⟩ := R2.alloc hal
    have tk := take_step p e hy
    have a4 : acc.length < sizeLine := by
      have h2 : i < xs.length := by simpa using hi
      omega
    refine gk.mono _ _ _ _ _ ?_ (gk.keep _ _ _ _ (hb y _ S2 (L2.wipe σ vs) H3 x (fun σ4 H4 => H4 = H3 ∧ ∃ Γ4, Rel (F.at S2 H2 fun _ => False) Γ4 S2 σ4 H4 ∧ WT A ET Γ4 tt (.ok () : Res Unit) fun Γ3 b c3 => b = p y ∧ (b = true → WX A ET Γ3 te c3 fun Γ4 V c4 => V = .val (u (e y)))) R3 (hp S2 l2 (comp0 R1.fr f2)) fun Γ4 h4 σ4 R4 => ⟨rfl, Γ4, R4, h4⟩))
    rintro σ4 H4 ⟨⟨k1, _⟩, rfl, Γ4, R4, h4⟩
    refine ⟨k1.trans (wipe_sub fun _ h => h), ?_⟩
    have fin : ∀ S6 H6, FrOk (F.at S2 H2 fun _ => False) S6 H6 → FrOk ⟨S1, H1, fun _ => False, F.ad⟩ S6 H6 ∧ H6 D = some (.lst acc) ∧ ¬ S6 D := fun S6 H6 f => ⟨⟨fun a o h _ => f.kp a o (f2.kp a o h fun z => z) fun z => z, fun a h => ?_, fun a h => f.le a (f2.le a h), fun a h => f.dm a (f2.dm a h), f.sd⟩, f.kp D _ a1 fun z => z, fun z => ?_⟩
    · refine h4 _ (fun m => m = .ok ()) S2 σ4 H4 _ (ok_unit A (ET _) _) R4 rfl fun Γ5 b c5 h5 S5 H5 R5 l5 hc5 => ?_
      obtain ⟨rfl, h5⟩ := h5
      cases hpy : p y with
      | true =>
        rw [if_pos rfl]
        refine h5 hpy _ (fun m => m = .ok ()) S5 σ4 H5 _ (ok_unit A (ET _) _) R5 hc5 fun Γ6 V c6 h6 S6 H6 z R6 l6 hz hc6 => ?_
        subst h6
        obtain ⟨f6, d6, n6⟩ := fin S6 H6 R6.fr
        have la : Le S6 H6 S6 (upd H6 D (.lst (acc ++ [z]))) := le_mut d6 n6 rfl
        have l26 : Le S2 H2 S6 H6 := (l3.trans l5).trans l6
        refine ⟨acc, d6, a4, S6, ⟨fun a o h q => by rw [upd_ne (ne_of_none h hD)]; exact f6.kp a o h q, f6.fz, f6.le, fun a h => upd_some (f6.dm a h), fun a h => upd_some (f6.sd a h)⟩, (l2.trans l26).trans la, n6, _, upd_same, ?_, by rw [List.length_append]; simp; omega⟩
        rw [tk, if_pos hpy, List.map_append]
        exact ((a2.up l26).snoc hz).up la
      | false =>
        rw [if_neg (by simp)]
        obtain ⟨f6, d6, n6⟩ := fin S5 H5 R5.fr
        refine ⟨S5, f6, (l2.trans l3).trans l5, n6, acc, d6, ?_, by omega⟩
        rw [tk, if_neg (by rw [hpy]; simp), List.append_nil]
        exact a2.up (l3.trans l5)
    · rcases f.fz a h with h | h | h
      · exact f2.fz a h
      · exact .inr (.inl (f2.fresh h))
      · exact h.elim
    · rcases f.fz D z with h | h | h
      · exact n2 h
      · have h : H2 D = none := h
        rw [a1] at h; cases h
      · exact h
  · rintro H2 ⟨S2, f2, l2, n2, acc, a1, a2, a3⟩
    rw [List.length_map, List.take_length] at a2
    rw [List.length_map] at a3
    have R2 := R1.back l2 f2
    exact k _ _ _ hk S2 H2 _ R2 (l1.trans l2) ⟨D, _, rfl, a1, ⟨acc, rfl, a2, by omega⟩, n2, .inr (R1.fr.fresh hD), fun z => z.dom R1 hD⟩ hc1
/-- .. no test -/
theorem wx_lcA {α β : Type} (t : α → Pv) (u : β → Pv) (e : α → β) (gk : GK g vs) (h : WI A E Γ w c fun Γ1 ps c1 => ∃ xs : List α, ps = xs.map t ∧
      (∀ x, WG (valsC (wipeC Γ1 vs)) g (t x) fun Γ2 => WX A ET Γ2 te (.ok () : Res Unit) fun Γ4 V c4 => V = .val (u (e x))) ∧ κ Γ1 (.own (oLst K ((xs.map e).map u))) c1) : WX A E Γ (tLc w g tYes te vs) c κ :=
  wx_lc (A := A) (E := E) (K := K) t u (fun _ => true) e gk fun F T S σ H Q O R hc k => h F T S σ H Q O R hc fun Γ' ps c' ⟨xs, h1, h2, h3⟩ => k Γ' ps c' ⟨xs, h1, fun x F S σ H v Q R hp kk => h2 x F S σ H v Q R hp fun Γ2 h4 => kk Γ2 (wt_yes ⟨rfl, fun _ => h4⟩), by rw [List.filter_eq_self.mpr fun _ _ => rfl]; exact h3⟩
end
end Mi
namespace Mi
open PySem PySem.Spec PyProof.Rows L2
open Sl (isTup sz szl)
section
variable {F : Fr} {Γ Γ' : Ctx} {S S' S2 : Fz} {σ σ2 : L2.St} {H H' H2 : Hp}
theorem FrOk.comp {I : Fz} (R : FrOk F S H) (f : FrOk (F.at S H I) S' H') (hI : ∀ a, I a → F.I a ∨ F.H0 a = none) : FrOk F S' H' := by
  refine ⟨fun a o h n => f.kp a o (R.kp a o h n) fun z => (hI a z).elim n (fun z => by rw [z] at h; cases h), fun a h => ?_, fun a h => f.le a (R.le a h), fun a h => f.dm a (R.dm a h), f.sd⟩
  rcases f.fz a h with h | h | h
  · exact R.fz a h
  · exact .inr (.inl (R.fresh h))
  · exact (hI a h).elim (fun z => .inr (.inr z)) fun z => .inr (.inl z)
theorem Rel.hI (R : Rel F Γ S σ H) : ∀ a, Held Γ σ a → F.I a ∨ F.H0 a = none := fun a ⟨i, b, O, h1, h2⟩ => by
  obtain ⟨a', o, e1, _, _, _, e5, _⟩ := R.own i b O h1
  rw [h2] at e1; cases e1
  exact e5
theorem pml_drop {α β : Type} {f : α → Res (Option β)} {xs : List α} {i : Nat} {x : α} (h : xs[i]? = some x) : pml f (xs.drop i) = (f x).bind fun r => (pml f (xs.drop (i + 1))).bind fun q => .ok (r.toList ++ q) := by
  have hi : i < xs.length := (List.getElem?_eq_some_iff.mp h).1
  rw [List.drop_eq_getElem_cons hi, (List.getElem?_eq_some_iff.mp h).2]
  rfl
end
section
variable {ρ : Type} {A : Nat → Addr} {E : L2.St → XK} {K : PySem.W.Frag} {Γ : Ctx} {c : Res ρ} {κ : Ctx → Vo → Res ρ → Prop} {te : TE} {tt : TT} {g : TG} {w : TI} {vs : List Nat}
/-- parts that may fail, at one place -/
theorem lcU_at {α β : Type} (t : α → Pv) (u : β → Pv) (gk : GK g vs) {F : Fr} {T : Res ρ → Prop} {S : Fz} {σ : L2.St} {H : Hp} {Q : VK} (O : Ok0 A (E σ) F T) (h : ∀ Rr : It → Hp → Prop, (∀ Γ1 ps c1, (∃ (f : α → Res (Option β)) (xs : List α) (k : List β → Res ρ), ps = xs.map t ∧ c1 = (pml f xs).bind k ∧
      (∀ x, WG (valsC (wipeC Γ1 vs)) g (t x) fun Γ2 => WT A ET Γ2 tt (f x) fun Γ3 b c3 => ∃ m : Res (Option β), c3 = (if b = true then m else .ok none) ∧ (WX A ET Γ3 te m fun Γ4 V c4 => ∃ y, V = .val (u y) ∧ c4 = .ok (some y))) ∧ ∀ ys, κ Γ1 (.own (oLst K (ys.map u))) (k ys)) → ∀ S' H' J, Rel F Γ1 S' σ H' → Le S H S' H' → T c1 → ItOk F J ps S' H' → Rr J H') → w σ H Rr)
      (k : ∀ Γ' V c', κ Γ' V c' → ∀ S' H' v, Rel F Γ' S' σ H' → Le S H S' H' → V.is F Γ' σ S' H' v → T c' → Q v H') : tLc w g tt te vs σ H Q := by
  refine h _ fun Γ1 ps c1 h1 S1 H1 J R1 l1 hc1 it D hD => ?_
  obtain ⟨f, xs, kk, rfl, rfl, hb, hk⟩ := h1
  have hD0 : ¬ S1 D := R1.fr.nfz hD
  have RV := (R1.wipe vs).vals
  have hlen : xs.length ≤ sizeLine := by have := it.1; rwa [List.length_map] at this
  refine lc_it it.walk (fun i H' => ∃ S', FrOk (F.at S1 H1 fun _ => False) S' H' ∧ Le S1 H1 S' H' ∧ ¬ S' D ∧ ∃ acc ys, H' D = some (.lst acc) ∧ PsOk S' H' acc (ys.map u) ∧ acc.length ≤ i ∧ T ((pml f (xs.drop i)).bind fun q => kk (ys ++ q))) ?_ (fun i H' _ ⟨S', f, l, _⟩ => ⟨S', l, comp0 R1.fr f⟩) ?_ ?_
  · refine ⟨S1, ⟨fun a o h _ => by rw [upd_ne (ne_of_none h hD)]; exact h, fun a h => .inl h, fun a h => h, fun a h => upd_some h, fun a h => upd_some (R1.fr.sd a h)⟩, le_new hD, hD0, [], [], upd_same, trivial, Nat.le_refl _, hc1⟩
  · rintro i x H2 H3 hi ⟨S2, f2, l2, n2, acc, ys, a1, a2, a3, hc2⟩ ⟨P, hP, hal, hp⟩
    obtain ⟨y, hy, rfl⟩ := map_at hP
    have R2 := RV.into l2 f2.sd fun _ => False
    obtain ⟨R3, l3⟩ := R2.alloc hal
    rw [pml_drop hy, bind_assoc] at hc2
    have a4 : acc.length < sizeLine := by
      have h2 : i < xs.length := by simpa using hi
      omega
    refine gk.mono _ _ _ _ _ ?_ (gk.keep _ _ _ _ (hb y _ S2 (L2.wipe σ vs) H3 x (fun σ4 H4 => H4 = H3 ∧ ∃ Γ4, Rel (F.at S2 H2 fun _ => False) Γ4 S2 σ4 H4 ∧ WT A ET Γ4 tt (f y) fun Γ3 b c3 => ∃ m : Res (Option β), c3 = (if b = true then m else .ok none) ∧ (WX A ET Γ3 te m fun Γ4 V c4 => ∃ y, V = .val (u y) ∧ c4 = .ok (some y))) R3 (hp S2 l2 (comp0 R1.fr f2)) fun Γ4 h4 σ4 R4 => ⟨rfl, Γ4, R4, h4⟩))
    rintro σ4 H4 ⟨⟨k1, _⟩, rfl, Γ4, R4, h4⟩
    refine ⟨k1.trans (wipe_sub fun _ h => h), ?_⟩
    have cm : ∀ S6 H6, FrOk (F.at S2 H2 fun _ => False) S6 H6 → FrOk (F.at S1 H1 fun _ => False) S6 H6 := fun S6 H6 f => FrOk.comp (F := F.at S1 H1 fun _ => False) f2 f fun _ z => z.elim
    have fin : ∀ S6 H6, FrOk (F.at S2 H2 fun _ => False) S6 H6 → H6 D = some (.lst acc) ∧ ¬ S6 D := fun S6 H6 f => ⟨f.kp D _ a1 fun z => z, fun z => ?_⟩
    · refine h4 _ (fun m => T (m.bind fun r => ((pml f (xs.drop (i + 1))).bind fun q => .ok (r.toList ++ q)).bind fun q => kk (ys ++ q))) S2 σ4 H4 _ ⟨O.nb, fun e z S' H' f => erT A⟩ R4 hc2 fun Γ5 b c5 h5 S5 H5 R5 l5 hc5 => ?_
      obtain ⟨m, rfl, h5⟩ := h5
      cases b with
      | true =>
        rw [if_pos rfl]
        refine h5 _ (fun m => T (m.bind fun r => ((pml f (xs.drop (i + 1))).bind fun q => .ok (r.toList ++ q)).bind fun q => kk (ys ++ q))) S5 σ4 H5 _ ⟨O.nb, fun e z S' H' f => erT A⟩ R5 hc5 fun Γ6 V c6 h6 S6 H6 z R6 l6 hz hc6 => ?_
        obtain ⟨y', rfl, rfl⟩ := h6
        obtain ⟨d6, n6⟩ := fin S6 H6 R6.fr
        have f6 := cm S6 H6 R6.fr
        have la : Le S6 H6 S6 (upd H6 D (.lst (acc ++ [z]))) := le_mut d6 n6 rfl
        have l26 : Le S2 H2 S6 H6 := (l3.trans l5).trans l6
        refine ⟨acc, d6, a4, S6, ⟨fun a o h q => by rw [upd_ne (ne_of_none h hD)]; exact f6.kp a o h q, f6.fz, f6.le, fun a h => upd_some (f6.dm a h), fun a h => upd_some (f6.sd a h)⟩, (l2.trans l26).trans la, n6, _, ys ++ [y'], upd_same, ?_, by rw [List.length_append]; simp; omega, ?_⟩
        · rw [List.map_append]
          exact ((a2.up l26).snoc hz).up la
        · simpa [bind_assoc] using hc6
      | false =>
        rw [if_neg (by simp)]
        rw [if_neg (by simp)] at hc5
        obtain ⟨d6, n6⟩ := fin S5 H5 R5.fr
        refine ⟨S5, cm _ _ R5.fr, (l2.trans l3).trans l5, n6, acc, ys, d6, a2.up (l3.trans l5), by omega, ?_⟩
        simpa [bind_assoc] using hc5
    · rcases f.fz D z with h | h | h
      · exact n2 h
      · have h : H2 D = none := h
        rw [a1] at h; cases h
      · exact h
  · rintro H2 ⟨S2, f2, l2, n2, acc, ys, a1, a2, a3, hc2⟩
    rw [List.length_map] at a3
    rw [List.length_map, List.drop_length] at hc2
    have R2 := R1.back l2 f2
    refine k _ _ _ (hk ys) S2 H2 _ R2 (l1.trans l2) ⟨D, _, rfl, a1, ⟨acc, rfl, a2, by omega⟩, n2, .inr (R1.fr.fresh hD), fun z => z.dom R1 hD⟩ ?_
    simpa [pml] using hc2
/-- parts that may fail -/
theorem wx_lcU {α β : Type} (t : α → Pv) (u : β → Pv) (gk : GK g vs) (h : WI A E Γ w c fun Γ1 ps c1 => ∃ (f : α → Res (Option β)) (xs : List α) (k : List β → Res ρ), ps = xs.map t ∧ c1 = (pml f xs).bind k ∧
      (∀ x, WG (valsC (wipeC Γ1 vs)) g (t x) fun Γ2 => WT A ET Γ2 tt (f x) fun Γ3 b c3 => ∃ m : Res (Option β), c3 = (if b = true then m else .ok none) ∧ (WX A ET Γ3 te m fun Γ4 V c4 => ∃ y, V = .val (u y) ∧ c4 = .ok (some y))) ∧ ∀ ys, κ Γ1 (.own (oLst K (ys.map u))) (k ys)) : WX A E Γ (tLc w g tt te vs) c κ := fun F T S σ H Q O R hc k => lcU_at t u gk O (fun Rr hh => h F T S σ H Rr O R hc hh) k
end
end Mi
namespace Mi
open PySem PySem.Spec PyProof.Rows L2
open Sl (isTup sz szl)
/-! ### what a def promises: a plain function with its arguments and its outcome -/
structure Cl where
  β : Type
  m : Res β
  V : β → Vo
  os : β → List Ow
inductive Ar | val (P : Pv) | io (O : Ow)
def ArsOk (S : Fz) (H : Hp) : List V → List Ar → Prop
  | [], [] => True
  | v :: vs, .val P :: as => P.p S H v ∧ ArsOk S H vs as
  | v :: vs, .io O :: as => (∃ a o, v = .ref a ∧ H a = some o ∧ O.w S H o ∧ ¬ S a) ∧ ArsOk S H vs as
  | _, _ => False
def ioAd : List V → List Ar → List Addr
  | .ref a :: vs, .io _ :: as => a :: ioAd vs as
  | _ :: vs, _ :: as => ioAd vs as
  | _, _ => []
def OsOk (S : Fz) (H : Hp) : List Addr → List Ow → Prop
  | [], [] => True
  | a :: as, O :: os => (∃ o, H a = some o ∧ O.w S H o ∧ ¬ S a) ∧ OsOk S H as os
  | _, _ => False
def Vo.is0 (H0 : Hp) (S : Fz) (H : Hp) : Vo → V → Prop
  | .val P, v => P.p S H v
  | .own O, v => ∃ a o, v = .ref a ∧ H a = some o ∧ O.w S H o ∧ ¬ S a ∧ H0 a = none
def spM (A : Nat → Addr) (pre : List Ar → Cl → Prop) : Sp := fun vs H Q E => ∃ S as d, pre as d ∧ ArsOk S H vs as ∧ (ioAd vs as).Nodup ∧ (∀ a, S a → H a ≠ none) ∧ d.m ≠ .bad ∧
  (∀ r, d.m = .ok r → ∀ S' H' v, FrOk ⟨S, H, fun a => a ∈ ioAd vs as, fun _ => 0⟩ S' H' → OsOk S' H' (ioAd vs as) (d.os r) → (d.V r).is0 H S' H' v → Q v H') ∧
  (∀ e, d.m = .err e → ∀ S' H', FrOk ⟨S, H, fun a => a ∈ ioAd vs as, fun _ => 0⟩ S' H' → ErH A e E H')
def ctx0 (n : Nat) : List Ar → Ctx
  | [] => List.replicate n .any
  | .val P :: as => .val P :: ctx0 (n - 1) as
  | .io O :: as => .own true O :: ctx0 (n - 1) as
def IoE (Γ : Ctx) : Nat → List Ar → List Ow → Prop
  | _, [], [] => True
  | i, .val _ :: as, os => IoE Γ (i + 1) as os
  | i, .io _ :: as, O :: os => Γ[i]? = some (.own true O) ∧ IoE Γ (i + 1) as os
  | _, _, _ => False
def retD (d : Cl) (as : List Ar) : Dl d.β where
  nx := fun Γ' c' => ∃ r, c' = .ok r ∧ d.V r = .val yNon ∧ IoE Γ' 0 as (d.os r)
  rt := fun Γ' V c' => ∃ r, c' = .ok r ∧ V = d.V r ∧ IoE Γ' 0 as (d.os r)
section
variable {S S' : Fz} {H H' : Hp}
theorem ArsOk.len : ∀ {vs : List V} {as : List Ar}, ArsOk S H vs as → vs.length = as.length
  | [], [], _ => rfl
  | [], _ :: _, h => False.elim h
  | _ :: _, [], h => False.elim h
  | _ :: _, .val P :: _, h => congrArg Nat.succ (ArsOk.len h.2)
  | _ :: _, .io P :: _, h => congrArg Nat.succ (ArsOk.len h.2)
theorem ctx0_len : ∀ {as : List Ar} {n : Nat}, as.length ≤ n → (ctx0 n as).length = n
  | [], n, _ => by simp [ctx0]
  | .val P :: as, n, h => by
    simp only [List.length_cons] at h
    rw [ctx0, List.length_cons, ctx0_len (by omega)]; omega
  | .io P :: as, n, h => by
    simp only [List.length_cons] at h
    rw [ctx0, List.length_cons, ctx0_len (by omega)]; omega
theorem ctx0_val : ∀ {as : List Ar} {vs : List V} {n i : Nat} {P : Pv}, ArsOk S H vs as → (ctx0 n as)[i]? = some (.val P) → ∃ v, vs[i]? = some v ∧ P.p S H v
  | [], vs, n, i, P, h, e => by
    rw [ctx0, List.getElem?_replicate] at e
    split at e <;> cases e
  | .val P' :: as, v :: vs, n, 0, P, h, e => by cases e; exact ⟨v, rfl, h.1⟩
  | .val P' :: as, v :: vs, n, i + 1, P, h, e => ctx0_val (as := as) (vs := vs) (i := i) h.2 e
  | .io P' :: as, v :: vs, n, 0, P, h, e => by cases e
  | .io P' :: as, v :: vs, n, i + 1, P, h, e => ctx0_val (as := as) (vs := vs) (i := i) h.2 e
theorem ctx0_own : ∀ {as : List Ar} {vs : List V} {n i : Nat} {b : Bool} {O : Ow}, ArsOk S H vs as → (ctx0 n as)[i]? = some (.own b O) → b = true ∧ ∃ a o, vs[i]? = some (.ref a) ∧ H a = some o ∧ O.w S H o ∧ ¬ S a ∧ a ∈ ioAd vs as
  | [], vs, n, i, b, O, h, e => by
    rw [ctx0, List.getElem?_replicate] at e
    split at e <;> cases e
  | .val P' :: as, v :: vs, n, 0, b, O, h, e => by cases e
  | .val P' :: as, v :: vs, n, i + 1, b, O, h, e => by
    obtain ⟨h0, a, o, h1, h2, h3, h4, h5⟩ := ctx0_own (as := as) (vs := vs) (i := i) h.2 e
    exact ⟨h0, a, o, h1, h2, h3, h4, by cases v <;> exact h5⟩
  | .io O' :: as, v :: vs, n, 0, b, O, h, e => by
    cases e
    obtain ⟨⟨a, o, rfl, h1, h2, h3⟩, _⟩ := h
    exact ⟨rfl, a, o, rfl, h1, h2, h3, List.mem_cons_self ..⟩
  | .io O' :: as, v :: vs, n, i + 1, b, O, h, e => by
    obtain ⟨h0, a, o, h1, h2, h3, h4, h5⟩ := ctx0_own (as := as) (vs := vs) (i := i) h.2 e
    refine ⟨h0, a, o, h1, h2, h3, h4, ?_⟩
    cases v <;> first | exact List.mem_cons_of_mem _ h5 | exact h5
theorem ctx0_sep : ∀ {as : List Ar} {vs : List V} {n i j : Nat} {b b' : Bool} {O O' : Ow} {a : Addr}, ArsOk S H vs as → (ioAd vs as).Nodup → (ctx0 n as)[i]? = some (.own b O) → (ctx0 n as)[j]? = some (.own b' O') → vs[i]? = some (.ref a) → vs[j]? = some (.ref a) → i = j
  | [], vs, n, i, j, b, b', O, O', a, h, nd, e1, e2, e3, e4 => by
    rw [ctx0, List.getElem?_replicate] at e1
    split at e1 <;> cases e1
  | .val P :: as, v :: vs, n, 0, j, b, b', O, O', a, h, nd, e1, e2, e3, e4 => by cases e1
  | .val P :: as, v :: vs, n, i + 1, 0, b, b', O, O', a, h, nd, e1, e2, e3, e4 => by cases e2
  | .val P :: as, v :: vs, n, i + 1, j + 1, b, b', O, O', a, h, nd, e1, e2, e3, e4 => by
    rw [ctx0_sep (as := as) (vs := vs) (i := i) (j := j) h.2 (by cases v <;> exact nd) e1 e2 e3 e4]
  | .io P :: as, v :: vs, n, 0, 0, b, b', O, O', a, h, nd, e1, e2, e3, e4 => rfl
  | .io P :: as, v :: vs, n, 0, j + 1, b, b', O, O', a, h, nd, e1, e2, e3, e4 => by
    cases e3
    obtain ⟨_, a', o, h1, _, _, _, h5⟩ := ctx0_own (as := as) (vs := vs) (i := j) h.2 e2
    have e4 : vs[j]? = some (.ref a) := e4
    rw [e4] at h1; cases h1
    exact absurd h5 (List.nodup_cons.mp nd).1
  | .io P :: as, v :: vs, n, i + 1, 0, b, b', O, O', a, h, nd, e1, e2, e3, e4 => by
    cases e4
    obtain ⟨_, a', o, h1, _, _, _, h5⟩ := ctx0_own (as := as) (vs := vs) (i := i) h.2 e1
    have e3 : vs[i]? = some (.ref a) := e3
    rw [e3] at h1; cases h1
    exact absurd h5 (List.nodup_cons.mp nd).1
  | .io P :: as, v :: vs, n, i + 1, j + 1, b, b', O, O', a, h, nd, e1, e2, e3, e4 => by
    obtain ⟨⟨a', o, rfl, _⟩, h2⟩ := h
    rw [ctx0_sep (as := as) (vs := vs) (i := i) (j := j) h2 (List.nodup_cons.mp nd).2 e1 e2 e3 e4]
/-- the addresses by slot -/
def adOf (vs : List V) (i : Nat) : Addr := match vs[i]? with
  | some (.ref a) => a
  | _ => 0
theorem os_of {F : Fr} {Γ : Ctx} {σ : L2.St} {H0 : Hp} {S0 : Fz} (R : Rel F Γ S' σ H') : ∀ {as : List Ar} {vs : List V} {os : List Ow} {i : Nat}, ArsOk S0 H0 vs as → (∀ j, F.ad (i + j) = adOf vs j) → IoE Γ i as os → OsOk S' H' (ioAd vs as) os
  | [], [], [], _, _, _, _ => trivial
  | [], [], _ :: _, _, _, _, h => False.elim h
  | .val P :: as, v :: vs, os, i, h, ad, k => by
    have : ioAd (v :: vs) (.val P :: as) = ioAd vs as := by cases v <;> rfl
    rw [this]
    exact os_of R (as := as) (vs := vs) (i := i + 1) h.2 (fun j => by have := ad (j + 1); rw [show i + 1 + j = i + (j + 1) by omega, this]; rfl) k
  | .io O :: as, v :: vs, [], i, h, ad, k => False.elim k
  | .io O :: as, v :: vs, O' :: os, i, h, ad, k => by
    obtain ⟨⟨a, o, rfl, h1, h2, h3⟩, h4⟩ := h
    obtain ⟨a', o', e1, e2, e3, e4, e5, e6⟩ := R.own i true O' k.1
    have : a' = a := (e6 rfl).trans (ad 0)
    subst this
    exact ⟨⟨o', e2, e3, e4⟩, os_of R (as := as) (vs := vs) (i := i + 1) h4 (fun j => by have := ad (j + 1); rw [show i + 1 + j = i + (j + 1) by omega, this]; rfl) k.2⟩
end
theorem held_io {F : Fr} {Γ : Ctx} {σ : L2.St} {S' : Fz} {H' H0 : Hp} {S0 : Fz} {a : Addr} (R : Rel F Γ S' σ H') : ∀ {as : List Ar} {vs : List V} {os : List Ow} {i : Nat}, ArsOk S0 H0 vs as → (∀ j, F.ad (i + j) = adOf vs j) → IoE Γ i as os → a ∈ ioAd vs as → Held Γ σ a
  | [], [], _, _, _, _, _, m => by cases m
  | .val P :: as, v :: vs, os, i, h, ad, k, m => by
    have : ioAd (v :: vs) (.val P :: as) = ioAd vs as := by cases v <;> rfl
    rw [this] at m
    exact held_io R (as := as) (vs := vs) (i := i + 1) h.2 (fun j => by have := ad (j + 1); rw [show i + 1 + j = i + (j + 1) by omega, this]; rfl) k m
  | .io O :: as, v :: vs, [], i, h, ad, k, m => False.elim k
  | .io O :: as, v :: vs, O' :: os, i, h, ad, k, m => by
    obtain ⟨⟨b, o, rfl, h1, h2, h3⟩, h4⟩ := h
    rcases List.mem_cons.mp m with e | m
    · subst e
      obtain ⟨a', o', e1, e2, e3, e4, e5, e6⟩ := R.own i true O' k.1
      have : a' = a := (e6 rfl).trans (ad 0)
      subst this
      exact ⟨i, true, O', k.1, e1⟩
    · exact held_io R (as := as) (vs := vs) (i := i + 1) h4 (fun j => by have := ad (j + 1); rw [show i + 1 + j = i + (j + 1) by omega, this]; rfl) k.2 m
section
variable {A : Nat → Addr} {E : XK} {pre : List Ar → Cl → Prop} {vs : List V} {H : Hp} {Q : VK} {N : List Str} {t : TS}
theorem fn_core {S : Fz} {as : List Ar} {d : Cl} (T : Res d.β → Prop) {c : Res d.β} (ho : Ok0 A E ⟨S, H, fun a => a ∈ ioAd vs as, adOf vs⟩ T) (hT : ∀ r, T (.ok r) → d.m = .ok r) (hc : T c) (h2 : ArsOk S H vs as) (h3 : (ioAd vs as).Nodup) (h4 : ∀ a, S a → H a ≠ none)
    (h6 : ∀ r, d.m = .ok r → ∀ S' H' v, FrOk ⟨S, H, fun a => a ∈ ioAd vs as, fun _ => 0⟩ S' H' → OsOk S' H' (ioAd vs as) (d.os r) → (d.V r).is0 H S' H' v → Q v H') (hl : vs.length ≤ N.length) (hw : WS A (fun _ => E) (ctx0 N.length as) t c (retD d as)) :
    t { nx := fun _ H' => Q .non H', rt := Q } (start N vs) H := by
  have hl' : as.length ≤ N.length := h2.len ▸ hl
  have sv : ∀ (i : Nat) (v : V), vs[i]? = some v → (start N vs)[i]? = some (some v) := fun i v e => by
    rw [L2.start, List.getElem?_append_left (by rw [List.length_map]; exact (List.getElem?_eq_some_iff.mp e).1), List.getElem?_map, e]; rfl
  have sv' : ∀ (i : Nat) (a : Addr), (start N vs)[i]? = some (some (.ref a)) → vs[i]? = some (.ref a) := fun i a e => by
    rw [L2.start] at e
    by_cases z : i < vs.length
    · rw [List.getElem?_append_left (by rw [List.length_map]; exact z), List.getElem?_map] at e
      obtain ⟨x, h1, h2⟩ := Option.map_eq_some_iff.mp e
      cases h2; exact h1
    · rw [List.getElem?_append_right (by rw [List.length_map]; omega), List.getElem?_replicate] at e
      split at e <;> cases e
  have R0 : Rel ⟨S, H, fun a => a ∈ ioAd vs as, adOf vs⟩ (ctx0 N.length as) S (start N vs) H := by
    refine ⟨⟨fun _ _ h _ => h, fun _ h => .inl h, fun _ h => h, fun _ h => h, h4⟩, ?_, fun i P e => ?_, fun i b O e => ?_, fun i j b b' O O' a e1 e2 e3 e4 => ?_⟩
    · rw [ctx0_len hl', L2.start, List.length_append, List.length_map, List.length_replicate]; omega
    · obtain ⟨v, h1, h2⟩ := ctx0_val h2 e
      exact ⟨v, sv i v h1, h2⟩
    · obtain ⟨_, a, o, q1, q2, q3, q4, q5⟩ := ctx0_own h2 e
      exact ⟨a, o, sv i _ q1, q2, q3, q4, .inl q5, fun _ => by show a = adOf vs i; unfold adOf; rw [q1]⟩
    · exact ctx0_sep h2 h3 e1 e2 (sv' i a e3) (sv' j a e4)
  have fin : ∀ Γ' S' σ' H' r, Rel ⟨S, H, fun a => a ∈ ioAd vs as, adOf vs⟩ Γ' S' σ' H' → T (.ok r) → IoE Γ' 0 as (d.os r) → ∀ v, (d.V r).is0 H S' H' v → Q v H' := fun Γ' S' σ' H' r R hr hi v hv =>
    h6 r (hT r hr) S' H' v ⟨R.fr.kp, R.fr.fz, R.fr.le, R.fr.dm, R.fr.sd⟩ (os_of R h2 (fun j => by rw [Nat.zero_add]) hi) hv
  refine hw _ T S _ H _ (fun _ => ho) R0 hc ⟨?_, ?_, fun _ _ z => z.elim, fun _ _ z => z.elim⟩
  · rintro Γ' c' ⟨r, rfl, hv, hi⟩ S' σ' H' R l hr
    exact fin Γ' S' σ' H' r R hr hi _ (by rw [hv]; exact rfl)
  · rintro Γ' V c' ⟨r, rfl, rfl, hi⟩ S' σ' H' v R l hv hr
    refine fin Γ' S' σ' H' r R hr hi _ ?_
    cases e : d.V r with
    | val P => rw [e] at hv; exact hv
    | own O =>
      rw [e] at hv
      obtain ⟨a, o, q1, q2, q3, q4, q5, q6⟩ := hv
      refine ⟨a, o, q1, q2, q3, q4, q5.resolve_left fun z => q6 ?_⟩
      exact held_io R h2 (i := 0) (fun j => by rw [Nat.zero_add]) hi z
/-- the body does what the plain function does -/
theorem fn_run (h : spM A pre vs H Q E) (hl : ∀ as d, pre as d → as.length ≤ N.length) (hb : ∀ as d, pre as d → ∃ c, d.m = c ∧ WS A (fun _ => E) (ctx0 N.length as) t c (retD d as)) : t { nx := fun _ H' => Q .non H', rt := Q } (start N vs) H := by
  obtain ⟨S, as, d, h1, h2, h3, h4, h5, h6, h7⟩ := h
  obtain ⟨c, e, hw⟩ := hb as d h1
  exact fn_core (fun c => d.m = c) ⟨h5, fun e z S' H' f => h7 e z S' H' ⟨f.kp, f.fz, f.le, f.dm, f.sd⟩⟩ (fun r z => z) e h2 h3 h4 h6 (h2.len ▸ hl as d h1) hw
/-- .. a def that lets nothing out -/
theorem fn_run0 (h : spM A pre vs H Q E) (hl : ∀ as d, pre as d → as.length ≤ N.length) (hb : ∀ as d, pre as d → ∃ c, d.m = Res.noerr c ∧ WS A (fun _ => E) (ctx0 N.length as) t c (retD d as)) : t { nx := fun _ H' => Q .non H', rt := Q } (start N vs) H := by
  obtain ⟨S, as, d, h1, h2, h3, h4, h5, h6, h7⟩ := h
  obtain ⟨c, e, hw⟩ := hb as d h1
  refine fn_core (fun c => d.m = Res.noerr c) ⟨fun z => h5 z, fun e z S' H' f => absurd z h5⟩ (fun r z => z) e h2 h3 h4 h6 (h2.len ▸ hl as d h1) hw
end
/-! ### the call -/
def setO (Γ : Ctx) (i : Nat) (O : Ow) : Ctx := match Γ[i]? with
  | some (.own b _) => Γ.set i (.own b O)
  | _ => Γ
def updC : Ctx → List Ag → List Ow → Ctx
  | Γ, .val _ :: gs, os => updC Γ gs os
  | Γ, .io i :: gs, O :: os => updC (setO Γ i O) gs os
  | Γ, _, _ => Γ
def MatchA (Γ : Ctx) : List Ag → List Ar → Prop
  | [], [] => True
  | .val P :: gs, .val P' :: as => P = P' ∧ MatchA Γ gs as
  | .io i :: gs, .io O :: as => (∃ b, Γ[i]? = some (.own b O)) ∧ MatchA Γ gs as
  | _, _ => False
def ioIx : List Ag → List Nat
  | [] => []
  | .val _ :: gs => ioIx gs
  | .io i :: gs => i :: ioIx gs
section
variable {F : Fr} {Γ : Ctx} {S S' : Fz} {σ : L2.St} {H H' : Hp}
/-- the arguments, for the callee -/
theorem ars_of (R : Rel F Γ S σ H) : ∀ {vs : List V} {gs : List Ag} {as : List Ar}, AgsOk σ S H vs gs → MatchA Γ gs as → ArsOk S H vs as ∧ (ioAd vs as).map (fun a => some (some (V.ref a))) = (ioIx gs).map fun i => σ[i]?
  | [], [], [], _, _ => ⟨trivial, rfl⟩
  | [], [], _ :: _, _, h => False.elim h
  | [], _ :: _, _, h, _ => False.elim h
  | _ :: _, [], _, h, _ => False.elim h
  | v :: vs, .val P :: gs, [], _, h => False.elim h
  | v :: vs, .io i :: gs, [], _, h => False.elim h
  | v :: vs, .val P :: gs, .io _ :: as, _, h => False.elim h
  | v :: vs, .io i :: gs, .val _ :: as, _, h => False.elim h
  | v :: vs, .val P :: gs, .val P' :: as, h, m => by
    obtain ⟨q1, q2⟩ := ars_of R (vs := vs) (gs := gs) (as := as) h.2 m.2
    have : ioAd (v :: vs) (.val P' :: as) = ioAd vs as := by cases v <;> rfl
    rw [this]
    exact ⟨⟨m.1 ▸ h.1, q1⟩, q2⟩
  | v :: vs, .io i :: gs, .io O :: as, h, m => by
    obtain ⟨q1, q2⟩ := ars_of R (vs := vs) (gs := gs) (as := as) h.2 m.2
    obtain ⟨b, hb⟩ := m.1
    obtain ⟨a, o, e1, e2, e3, e4, _⟩ := R.own i b O hb
    have e : σ[i]? = some (some v) := h.1
    rw [e] at e1; cases e1
    refine ⟨⟨⟨a, o, rfl, e2, e3, e4⟩, q1⟩, ?_⟩
    show some (some (V.ref a)) :: _ = σ[i]? :: _
    rw [e]; exact congrArg _ q2
theorem setO_at {i j : Nat} {O : Ow} {x : Slt} (h : (setO Γ i O)[j]? = some x) : (Γ[j]? = some x ∧ (j = i → ∀ b O', x ≠ .own b O')) ∨ (j = i ∧ ∃ b O0, x = .own b O ∧ Γ[i]? = some (.own b O0)) := by
  unfold setO at h
  split at h
  · next b O0 e =>
    rcases set_at h with ⟨rfl, rfl⟩ | ⟨n, h⟩
    · exact .inr ⟨rfl, b, O0, rfl, e⟩
    · exact .inl ⟨h, fun z => absurd z n⟩
  · next hn =>
    refine .inl ⟨h, fun z b O' q => ?_⟩
    subst z; subst q
    exact hn b O' h
theorem setO_len {i : Nat} {O : Ow} : (setO Γ i O).length = Γ.length := by
  unfold setO
  split
  · rw [List.length_set]
  · rfl
theorem updC_at : ∀ {gs : List Ag} {Γ : Ctx} {os : List Ow} {j : Nat} {x : Slt}, (updC Γ gs os)[j]? = some x → (Γ[j]? = some x ∧ (∀ b O', x = .own b O' → os.length = (ioIx gs).length → j ∉ ioIx gs)) ∨ (∃ b O0 O, x = .own b O ∧ Γ[j]? = some (.own b O0) ∧ ∃ k : Nat, (ioIx gs)[k]? = some j ∧ os[k]? = some O)
  | [], Γ, os, j, x, h => .inl ⟨h, fun _ _ _ _ => List.not_mem_nil⟩
  | .val _ :: gs, Γ, os, j, x, h => updC_at (gs := gs) h
  | .io i :: gs, Γ, [], j, x, h => .inl ⟨h, fun _ _ _ z => by simp [ioIx] at z⟩
  | .io i :: gs, Γ, O :: os, j, x, h => by
    rcases updC_at (gs := gs) (Γ := setO Γ i O) h with ⟨h1, h2⟩ | ⟨b, O0, O', rfl, h2, k, h3, h4⟩
    · rcases setO_at h1 with ⟨h3, h4⟩ | ⟨rfl, b, O0, rfl, h3⟩
      · refine .inl ⟨h3, fun b O' e z => ?_⟩
        simp only [ioIx, List.length_cons, Nat.succ.injEq] at z
        simp only [ioIx, List.mem_cons, not_or]
        exact ⟨fun q => h4 q b O' e, h2 b O' e (by omega)⟩
      · exact .inr ⟨b, O0, O, rfl, h3, 0, rfl, rfl⟩
    · rcases setO_at h2 with ⟨h5, _⟩ | ⟨rfl, b', O1, e, h5⟩
      · exact .inr ⟨b, O0, O', rfl, h5, k + 1, h3, h4⟩
      · cases e; exact .inr ⟨b, O1, O', rfl, h5, k + 1, h3, h4⟩
theorem updC_len : ∀ {gs : List Ag} {Γ : Ctx} {os : List Ow}, (updC Γ gs os).length = Γ.length
  | [], _, _ => rfl
  | .val _ :: gs, Γ, os => updC_len (gs := gs)
  | .io i :: gs, Γ, [] => rfl
  | .io i :: gs, Γ, O :: os => by rw [updC, updC_len (gs := gs), setO_len]
theorem osOk_at : ∀ {as : List Addr} {os : List Ow} {k : Nat} {O : Ow}, OsOk S H as os → os[k]? = some O → ∃ a o, as[k]? = some a ∧ H a = some o ∧ O.w S H o ∧ ¬ S a
  | [], [], k, O, h, e => by simp at e
  | [], _ :: _, _, _, h, _ => False.elim h
  | _ :: _, [], _, _, h, _ => False.elim h
  | a :: as, O' :: os, 0, O, h, e => by cases e; obtain ⟨o, h1⟩ := h.1; exact ⟨a, o, rfl, h1⟩
  | a :: as, O' :: os, k + 1, O, h, e => osOk_at (as := as) (os := os) (k := k) h.2 e
theorem osOk_len : ∀ {as : List Addr} {os : List Ow}, OsOk S H as os → as.length = os.length
  | [], [], h => rfl
  | [], _ :: _, h => False.elim h
  | _ :: _, [], h => False.elim h
  | a :: as, O' :: os, h => congrArg Nat.succ (osOk_len h.2)
theorem Rel.called (R : Rel F Γ S σ H) {gs : List Ag} {os : List Ow} {ads : List Addr} (hio : ads.map (fun a => some (some (V.ref a))) = (ioIx gs).map fun i => σ[i]?) (hown : ∀ i ∈ ioIx gs, ∃ b O, Γ[i]? = some (.own b O)) {ad : Nat → Addr} (f : FrOk ⟨S, H, fun a => a ∈ ads, ad⟩ S' H') (ho : OsOk S' H' ads os) :
    Le S H S' H' ∧ Rel F (updC Γ gs os) S' σ H' := by
  have hads : ∀ (k : Nat) (i : Nat), (ioIx gs)[k]? = some i → ∃ a, ads[k]? = some a ∧ σ[i]? = some (some (.ref a)) := fun k i e => by
    have q := congrArg (fun l => l[k]?) hio
    simp only [List.getElem?_map, e, Option.map_some] at q
    obtain ⟨a, h1, h2⟩ := Option.map_eq_some_iff.mp q
    exact ⟨a, h1, h2.symm⟩
  have hads' : ∀ a ∈ ads, ∃ i ∈ ioIx gs, σ[i]? = some (some (.ref a)) := fun a h => by
    obtain ⟨k, hk⟩ := List.mem_iff_getElem?.mp h
    have q := congrArg (fun l => l[k]?) hio
    simp only [List.getElem?_map, hk, Option.map_some] at q
    obtain ⟨i, h1, h2⟩ := Option.map_eq_some_iff.mp q.symm
    exact ⟨i, List.mem_iff_getElem?.mpr ⟨k, h1⟩, h2⟩
  have held : ∀ a ∈ ads, Held Γ σ a := fun a h => by
    obtain ⟨i, h1, h2⟩ := hads' a h
    obtain ⟨b, O, h3⟩ := hown i h1
    exact ⟨i, b, O, h3, h2⟩
  have hlen : os.length = (ioIx gs).length := by
    rw [← osOk_len ho]
    have := congrArg List.length hio
    simpa using this
  have l : Le S H S' H' := .ex f.le fun a o h k => f.kp a o h fun z => by
    obtain ⟨i, b, O, h1, h2⟩ := held a z
    obtain ⟨a', o', e1, e2, e3, e4, _⟩ := R.own i b O h1
    rw [h2] at e1; cases e1
    rw [h] at e2; cases e2
    rcases k with k | k
    · exact e4 k
    · rw [O.nt e3] at k; cases k
  refine ⟨l, ⟨R.fr.comp (S' := S') (H' := H') (I := fun a => a ∈ ads) ⟨f.kp, f.fz, f.le, f.dm, f.sd⟩ fun a h => R.hI a (held a h), by rw [updC_len]; exact R.len, fun i P e => ?_, fun i b O e => ?_, fun i j b b' O O' a e1 e2 => ?_⟩⟩
  · rcases updC_at e with ⟨h1, _⟩ | ⟨b, O0, O, h, _⟩
    · obtain ⟨v, h2, h3⟩ := R.val i P h1
      exact ⟨v, h2, P.up l h3⟩
    · cases h
  · rcases updC_at e with ⟨h1, h2⟩ | ⟨b', O0, O', h, h1, k, h2, h3⟩
    · obtain ⟨a, o, e1, e2, e3, e4, e5, e6⟩ := R.own i b O h1
      have na : a ∉ ads := fun z => by
        obtain ⟨j, h3, h4⟩ := hads' a z
        obtain ⟨b2, O2, h5⟩ := hown j h3
        have := R.sep i j b b2 O O2 a h1 h5 e1 h4
        subst this
        exact h2 b O rfl hlen h3
      exact ⟨a, o, e1, f.kp a o e2 na, O.up l e3, fun z => by
        rcases f.fz a z with z | z | z
        · exact e4 z
        · have z : H a = none := z
          rw [e2] at z; cases z
        · exact na z, e5, e6⟩
    · cases h
      obtain ⟨a, o, e1, e2, e3, e4, e5, e6⟩ := R.own i b O0 h1
      obtain ⟨a', q1, q2⟩ := hads k i h2
      rw [e1] at q2; cases q2
      obtain ⟨a2, o2, w1, w2, w3, w4⟩ := osOk_at ho h3
      rw [q1] at w1; cases w1
      exact ⟨a, o2, e1, w2, w3, w4, e5, e6⟩
  · have q : ∀ (i : Nat) (b : Bool) (O : Ow), (updC Γ gs os)[i]? = some (.own b O) → ∃ b O, Γ[i]? = some (Slt.own b O) := fun i b O e => by
      rcases updC_at e with ⟨h1, h2⟩ | ⟨b', O0, O', h, h1, _⟩
      · exact ⟨_, _, h1⟩
      · exact ⟨_, _, h1⟩
    obtain ⟨_, _, q1⟩ := q i b O e1
    obtain ⟨_, _, q2⟩ := q j b' O' e2
    exact R.sep i j _ _ _ _ a q1 q2
end
theorem match_own {Γ : Ctx} : ∀ {gs : List Ag} {as : List Ar}, MatchA Γ gs as → ∀ i ∈ ioIx gs, ∃ b O, Γ[i]? = some (.own b O)
  | [], [], _, i, h => absurd h List.not_mem_nil
  | [], _ :: _, h, _, _ => False.elim h
  | .val P :: gs, [], h, _, _ => False.elim h
  | .io P :: gs, [], h, _, _ => False.elim h
  | .val P :: gs, .io _ :: as, h, _, _ => False.elim h
  | .io P :: gs, .val _ :: as, h, _, _ => False.elim h
  | .val P :: gs, .val _ :: as, h, i, m => match_own (gs := gs) h.2 i m
  | .io j :: gs, .io O :: as, h, i, m => by
    rcases List.mem_cons.mp m with e | m
    · obtain ⟨b, hb⟩ := h.1
      subst e
      exact ⟨b, O, hb⟩
    · exact match_own (gs := gs) h.2 i m
section
variable {ρ : Type} {A : Nat → Addr} {E E' : L2.St → XK} {K : PySem.W.Frag} {Γ : Ctx} {c : Res ρ} {κ : Ctx → Vo → Res ρ → Prop} {pre : List Ar → Cl → Prop} {gs : List Ag} {tr : TA}
/-- how many arguments -/
theorem spM_len {vs : List V} {H : Hp} {Q : VK} {E : XK} {n : Nat} (h : spM A pre vs H Q E) (hn : ∀ as d, pre as d → as.length = n) : vs.length = n := by
  obtain ⟨S, as, d, h1, h2, _⟩ := h
  rw [h2.len, hn as d h1]
/-- E': what the rule of the call wants of an exception: the def's own, or nothing at all where the callee lets nothing out -/
theorem rc_call (as : List Ar) (d : Cl) (k : d.β → Res ρ) (hp : pre as d) (hm : MatchA Γ gs as) (hn : (ioIx gs).Nodup) (hc : c = d.m.bind k) (he : E' = E ∨ ∀ e, d.m ≠ .err e) (h : ∀ r, d.m = .ok r → κ (updC Γ gs (d.os r)) (d.V r) (k r)) : RC A E (fun σ vs H Q => spM A pre vs H Q (E' σ)) gs Γ c κ := fun F T S σ H vs Q O R hT hg kk => by
  subst hc
  obtain ⟨h1, h2⟩ := ars_of R hg hm
  have h3 : (ioAd vs as).Nodup := by
    have inj : ∀ i ∈ ioIx gs, ∀ j ∈ ioIx gs, σ[i]? = σ[j]? → i = j := fun i hi j hj e => by
      obtain ⟨b, O1, q1⟩ := match_own hm i hi
      obtain ⟨b', O2, q2⟩ := match_own hm j hj
      obtain ⟨a, o, e1, _⟩ := R.own i b O1 q1
      exact R.sep i j b b' O1 O2 a q1 q2 e1 (e ▸ e1)
    have nd : ((ioIx gs).map fun i => σ[i]?).Nodup := by
      refine List.Pairwise.map _ (R := fun i j => i ∈ ioIx gs ∧ j ∈ ioIx gs ∧ i ≠ j) (fun i j q e => q.2.2 (inj i q.1 j q.2.1 e)) ?_
      exact hn.imp_of_mem fun hi hj n => ⟨hi, hj, n⟩
    rw [← h2] at nd
    exact List.Pairwise.of_map (S := (· ≠ ·)) _ (fun a b q e => q (by rw [e])) nd
  have nb : d.m ≠ .bad := fun z => by rw [z] at hT; exact O.nb hT
  refine ⟨S, as, d, hp, h1, h3, R.fr.sd, nb, fun r hr S' H' v f ho hv => ?_, fun e z S' H' f => ?_⟩
  · obtain ⟨l, R'⟩ := R.called h2 (match_own hm) f ho
    refine kk _ _ _ (h r hr) S' H' v R' l ?_ (by rw [hr] at hT; exact hT)
    cases ev : d.V r with
    | val P => rw [ev] at hv; exact hv
    | own O' =>
      rw [ev] at hv
      obtain ⟨a, o, q1, q2, q3, q4, q5⟩ := hv
      refine ⟨a, o, q1, q2, q3, q4, .inr (R.fr.fresh q5), fun ⟨i, b, O2, w1, w2⟩ => ?_⟩
      have : ∃ b O, Γ[i]? = some (Slt.own b O) := by
        rcases updC_at w1 with ⟨w, _⟩ | ⟨b', O0, O3, w, w', _⟩
        · exact ⟨_, _, w⟩
        · exact ⟨_, _, w'⟩
      obtain ⟨b3, O3, w3⟩ := this
      obtain ⟨a', o', e1, e2, _⟩ := R.own i b3 O3 w3
      rw [w2] at e1; cases e1
      rw [q5] at e2; cases e2
  · rcases he with rfl | he
    · exact O.er e (by rw [z] at hT; exact hT) S' H' (R.fr.comp (I := fun a => a ∈ ioAd vs as) ⟨f.kp, f.fz, f.le, f.dm, f.sd⟩ fun a h => by
        obtain ⟨k, hk⟩ := List.mem_iff_getElem?.mp h
        have q := congrArg (fun l => l[k]?) h2
        simp only [List.getElem?_map, hk, Option.map_some] at q
        obtain ⟨i, w1, w2⟩ := Option.map_eq_some_iff.mp q.symm
        obtain ⟨b, O, w3⟩ := match_own hm i (List.mem_iff_getElem?.mpr ⟨k, w1⟩)
        exact R.hI a ⟨i, b, O, w3, w2⟩)
    · exact absurd z (he e)
theorem noerr_ne {α : Type} {m : Res α} {e : Er} (h : m.noerr = .err e) : False := by cases m <;> cases h
/-- .. of a def that is a plain function -/
theorem rc_callP (as : List Ar) (d : Cl) (v : d.β) (hp : pre as d) (hm : MatchA Γ gs as) (hn : (ioIx gs).Nodup) (hv : d.m = .ok v) (h : κ (updC Γ gs (d.os v)) (d.V v) c) : RC A E (fun σ vs H Q => spM A pre vs H Q (E' σ)) gs Γ c κ :=
  rc_call as d (fun _ => c) hp hm hn (by rw [hv]; rfl) (.inr fun e z => by rw [hv] at z; cases z) fun r hr => by rw [hv] at hr; cases hr; exact h
theorem wx_call {E1 : XK} (h : WA A E Γ tr c fun Γ1 gs c1 => RC A E (fun _ vs H Q => spM A pre vs H Q E1) gs Γ1 c1 κ) : WX A E Γ (tCall (spM A pre) [] E1 tr) c κ := fun F T S σ H Q O R hc k => by
  refine h F T S σ H _ O R hc fun Γ1 gs c1 h1 S1 H1 xs R1 l1 p1 hc1 => ?_
  show spM A pre (xs ++ []) H1 Q E1
  rw [List.append_nil]
  exact h1 F T S1 σ H1 xs Q O R1 hc1 p1 fun Γ' V c' q S' H' v R' l => k Γ' V c' q S' H' v R' (l1.trans l)
end
end Mi
namespace Mi
open PySem PySem.Spec PyProof.Rows L2
open Sl (isTup sz szl slt)
/-! ### plain operations -/
def pidx {α : Type} (xs : List α) (i : Int) : Res α := match atI xs i with
  | some x => .ok x
  | none => .bad
def pcut {α : Type} (xs : List α) (lo hi : Option Int) : List α := (xs.drop (HT.sIx xs.length 0 lo)).take (HT.sIx xs.length xs.length hi - HT.sIx xs.length 0 lo)
def pmod (x y : Int) : Res Int := if 0 < y then .ok (x % y) else .bad
def pdiv (x y : Int) : Res Int := if 0 < y ∧ y < 1073741824 then .ok (x / y) else .bad
def pmul (x y : Int) : Res Int := if (-(2 ^ 64) < x ∧ x < 2 ^ 64) ∨ (-(2 ^ 64) < y ∧ y < 2 ^ 64) then .ok (x * y) else .bad
def pcat {α : Type} (xs ys : List α) : Res (List α) := if xs.length + ys.length ≤ 100000 then .ok (xs ++ ys) else .bad
def pset {α : Type} (xs : List α) (i : Int) (y : α) : Res (List α) := match ixN xs.length i with
  | some j => .ok (xs.set j y)
  | none => .bad
def psnoc {α : Type} (xs : List α) (y : α) : Res (List α) := if xs.length < 100000 then .ok (xs ++ [y]) else .bad
/-! dicts -/
def dlook {κ α : Type} [DecidableEq κ] (d : List (κ × α)) (k : κ) : Option α := (d.find? fun kv => decide (kv.1 = k)).map (·.2)
def dput {κ α : Type} [DecidableEq κ] (d : List (κ × α)) (k : κ) (v : α) : List (κ × α) :=
  if (d.any fun kv => decide (kv.1 = k)) = true then d.map (fun kv => if kv.1 = k then (kv.1, v) else kv) else d ++ [(k, v)]
def pdget {κ α : Type} [DecidableEq κ] (d : List (κ × α)) (k : κ) : Res α := match dlook d k with
  | some x => .ok x
  | none => .bad
def pdput {κ α : Type} [DecidableEq κ] (d : List (κ × α)) (k : κ) (v : α) : Res (List (κ × α)) := if d.length < 100000 then .ok (dput d k v) else .bad
def dhas {κ α : Type} [DecidableEq κ] (d : List (κ × α)) (k : κ) : Bool := (dlook d k).isSome
def dkeys {κ α : Type} (d : List (κ × α)) : List κ := d.map (·.1)
/-! sorted texts -/
/-! ### dicts: what they hold -/
class DKey (κ : Type) where
  ky : κ → Key
  inj : ∀ a b, ky a = ky b → a = b
instance : DKey Str := ⟨Sum.inr, fun _ _ h => by injection h⟩
instance : DKey Int := ⟨Sum.inl, fun _ _ h => by injection h⟩
def KpOk (S : Fz) (H : Hp) : List (Key × V) → List (Key × Pv) → Prop
  | [], [] => True
  | kv :: kvs, kp :: kps => (kv.1 = kp.1 ∧ kp.2.p S H kv.2) ∧ KpOk S H kvs kps
  | _, _ => False
section
variable {S S' : Fz} {H H' : Hp}
theorem KpOk.up (l : Le S H S' H') : ∀ {vs : List (Key × V)} {ps : List (Key × Pv)}, KpOk S H vs ps → KpOk S' H' vs ps
  | [], [], _ => trivial
  | [], _ :: _, h => False.elim h
  | _ :: _, [], h => False.elim h
  | _ :: _, P :: _, h => ⟨⟨h.1.1, P.2.up l h.1.2⟩, KpOk.up l h.2⟩
theorem KpOk.len : ∀ {vs : List (Key × V)} {ps : List (Key × Pv)}, KpOk S H vs ps → vs.length = ps.length
  | [], [], _ => rfl
  | [], _ :: _, h => False.elim h
  | _ :: _, [], h => False.elim h
  | _ :: _, P :: _, h => congrArg Nat.succ (KpOk.len h.2)
theorem KpOk.keys : ∀ {vs : List (Key × V)} {ps : List (Key × Pv)}, KpOk S H vs ps → vs.map (·.1) = ps.map (·.1)
  | [], [], _ => rfl
  | [], _ :: _, h => False.elim h
  | _ :: _, [], h => False.elim h
  | v :: vs, P :: ps, h => by rw [List.map_cons, List.map_cons, h.1.1, KpOk.keys h.2]
def kpl {κ α : Type} [DKey κ] (t : α → Pv) (d : List (κ × α)) : List (Key × Pv) := d.map fun kv => (DKey.ky kv.1, t kv.2)
theorem KpOk.look {κ α : Type} [DKey κ] [DecidableEq κ] {t : α → Pv} {k : κ} : ∀ {kvs : List (Key × V)} {d : List (κ × α)}, KpOk S H kvs (kpl t d) → (∀ x, dlook d k = some x → ∃ v, valV kvs (DKey.ky k) = some v ∧ (t x).p S H v) ∧ (dlook d k = none → valV kvs (DKey.ky k) = none)
  | [], [], _ => ⟨fun x h => by simp [dlook] at h, fun _ => rfl⟩
  | [], _ :: _, h => False.elim h
  | _ :: _, [], h => False.elim h
  | kv :: kvs, (k', x') :: d, h => by
    obtain ⟨i1, i2⟩ := KpOk.look (k := k) (kvs := kvs) (d := d) h.2
    by_cases e : k' = k
    · have e' : kv.1 = DKey.ky k := by rw [h.1.1]; exact congrArg _ e
      have e1 : dlook ((k', x') :: d) k = some x' := by simp [dlook, List.find?_cons, e]
      rw [e1, valV_pos e']
      exact ⟨fun x hx => by cases hx; exact ⟨_, rfl, h.1.2⟩, fun z => by cases z⟩
    · have e' : ¬ kv.1 = DKey.ky k := by rw [h.1.1]; exact fun z => e (DKey.inj _ _ z)
      have e1 : dlook ((k', x') :: d) k = dlook d k := by simp [dlook, List.find?_cons, e]
      rw [e1, valV_neg e']
      exact ⟨i1, i2⟩
theorem KpOk.put {κ α : Type} [DKey κ] [DecidableEq κ] {t : α → Pv} {k : κ} {y : α} {v : V} {kvs : List (Key × V)} {d : List (κ × α)} (h : KpOk S H kvs (kpl t d)) (hv : (t y).p S H v) : KpOk S H (putK kvs (DKey.ky k) v) (kpl t (dput d k y)) := by
  have any : ∀ {kvs : List (Key × V)} {d : List (κ × α)}, KpOk S H kvs (kpl t d) → (kvs.any fun kv => decide (kv.1 = DKey.ky k)) = d.any fun kv => decide (kv.1 = k) := by
    intro kvs d h
    induction kvs generalizing d with
    | nil => cases d with
      | nil => rfl
      | cons p d => exact False.elim h
    | cons kv kvs ih => cases d with
      | nil => exact False.elim h
      | cons p d =>
        rw [List.any_cons, List.any_cons, ih h.2]
        congr 1
        have : kv.1 = DKey.ky p.1 := h.1.1
        rw [this]
        exact decide_eq_decide.mpr ⟨fun z => DKey.inj _ _ z, fun z => by rw [z]⟩
  unfold putK dput
  rw [any h]
  by_cases z : (d.any fun kv => decide (kv.1 = k)) = true
  · rw [if_pos z, if_pos z]
    clear z any
    induction kvs generalizing d with
    | nil => cases d with
      | nil => trivial
      | cons p d => exact False.elim h
    | cons kv kvs ih => cases d with
      | nil => exact False.elim h
      | cons p d =>
        have e : kv.1 = DKey.ky p.1 := h.1.1
        refine ⟨?_, ih h.2⟩
        by_cases q : p.1 = k
        · have q' : kv.1 = DKey.ky k := by rw [e, q]
          dsimp only
          rw [if_pos q', if_pos q]
          exact ⟨h.1.1, hv⟩
        · have q' : ¬ kv.1 = DKey.ky k := by rw [e]; exact fun z => q (DKey.inj _ _ z)
          dsimp only
          rw [if_neg q', if_neg q]
          exact h.1
  · rw [if_neg z, if_neg z]
    clear z any
    induction kvs generalizing d with
    | nil => cases d with
      | nil => exact ⟨⟨rfl, hv⟩, trivial⟩
      | cons p d => exact False.elim h
    | cons kv kvs ih => cases d with
      | nil => exact False.elim h
      | cons p d => exact ⟨h.1, ih h.2⟩
end
/-- a dict that stands -/
def pDct (kps : List (Key × Pv)) : Pv := ⟨fun S H v => ∃ a kvs, v = .ref a ∧ S a ∧ Rd H a (.dK kvs) ∧ KpOk S H kvs kps ∧ kvs.length ≤ sizeLine, fun l ⟨a, kvs, h1, h2, h3, h4, h5⟩ => ⟨a, kvs, h1, l.fz a h2, l.rd (fun _ _ e => nomatch e) (fun _ _ _ e => nomatch e) h3 (.inl h2), h4.up l, h5⟩⟩
abbrev yDct {κ α : Type} [DKey κ] (t : α → Pv) (d : List (κ × α)) : Pv := pDct (kpl t d)
abbrev wLst (K : PySem.W.Frag) {α : Type} (t : α → Pv) (xs : List α) : Ow := oLst K (xs.map t)
/-- keys as values -/
class KeyV (κ : Type) (t : κ → Pv) extends DKey κ where
  is : ∀ k S H v, (t k).p S H v → v = kV (ky k)
instance : KeyV Str yStr := { is := fun k S H v h => h }
instance : KeyV Int yInt := { is := fun k S H v h => h }
/-! ### data: what == tells apart -/
class Dat (K : PySem.W.Frag) {α : Type} (t : α → Pv) where
  enc : α → PyData
  dp : ∀ x S H v, (t x).p S H v → Dp K H v (enc x)
  pl : ∀ x, (enc x).plain = true
  n : Nat
  dep : ∀ x S H v, (t x).p S H v → (enc x).depth ≤ n
  eq : ∀ x y, PyData.eqv (enc x) (enc y) = true ↔ x = y
section
variable {K : PySem.W.Frag} {α β γ : Type} {t : α → Pv} {u : β → Pv} {w : γ → Pv}
instance : Dat K yInt := ⟨.int, fun x S H v h => h ▸ .int x, fun _ => rfl, 1, fun _ _ _ _ _ => by simp [PyData.depth], fun x y => by simp [PyData.eqv]⟩
instance : Dat K yStr := ⟨.str, fun x S H v h => h ▸ .str x, fun _ => rfl, 1, fun _ _ _ _ _ => by simp [PyData.depth], fun x y => by simp [PyData.eqv]⟩
instance : Dat K yBl := ⟨.bool, fun x S H v h => h ▸ .bl x, fun _ => rfl, 1, fun _ _ _ _ _ => by simp [PyData.depth], fun x y => by simp [PyData.eqv]⟩
theorem dps_of {S : Fz} {H : Hp} [D : Dat K t] : ∀ {vs : List V} {xs : List α}, PsOk S H vs (xs.map t) → DpAll K H vs (xs.map D.enc)
  | [], [], _ => .nil
  | [], _ :: _, h => False.elim h
  | _ :: _, [], h => False.elim h
  | v :: vs, x :: xs, h => .cons (D.dp x S H v h.1) (dps_of h.2)
theorem pls_of [D : Dat K t] : ∀ xs : List α, PyData.plainAll (xs.map D.enc) = true
  | [] => rfl
  | x :: xs => by rw [List.map_cons, PyData.plainAll, D.pl x, pls_of xs]; rfl
theorem deps_of [D : Dat K t] {S : Fz} {H : Hp} : ∀ {vs : List V} {xs : List α}, PsOk S H vs (xs.map t) → PyData.depthAll (xs.map D.enc) ≤ D.n
  | [], [], _ => by simp [PyData.depthAll]
  | [], _ :: _, h => False.elim h
  | _ :: _, [], h => False.elim h
  | v :: vs, x :: xs, h => by rw [List.map_cons, PyData.depthAll]; have := D.dep x S H v h.1; have := deps_of h.2; omega
theorem dep_mem [D : Dat K t] {S : Fz} {H : Hp} : ∀ {vs : List V} {xs : List α}, PsOk S H vs (xs.map t) → ∀ x ∈ xs, (D.enc x).depth ≤ D.n
  | [], [], _, _, h => nomatch h
  | [], _ :: _, h, _, _ => False.elim h
  | _ :: _, [], h, _, _ => False.elim h
  | v :: vs, y :: ys, h, x, hx => by
    rcases List.mem_cons.mp hx with e | hx
    · rw [e]; exact D.dep y S H v h.1
    · exact dep_mem h.2 x hx
theorem eqs_of [D : Dat K t] : ∀ xs ys : List α, PyData.eqvAll (xs.map D.enc) (ys.map D.enc) = true ↔ xs = ys
  | [], [] => by simp [PyData.eqvAll]
  | [], _ :: _ => by simp [PyData.eqvAll]
  | _ :: _, [] => by simp [PyData.eqvAll]
  | x :: xs, y :: ys => by
    rw [List.map_cons, List.map_cons, PyData.eqvAll, Bool.and_eq_true, D.eq x y, eqs_of xs ys]; simp
instance [D : Dat K t] : Dat K (fun xs : List α => yTup K t xs) := ⟨fun xs => .tuple (xs.map D.enc), fun xs S H v ⟨a, vs, e, h1, h2, _⟩ => e ▸ .tup h1 (dps_of h2), fun xs => by rw [PyData.plain]; exact pls_of xs, D.n + 1, fun xs S H v ⟨a, vs, e, h1, h2, _⟩ => by rw [PyData.depth]; have := deps_of (K := K) h2; omega, fun xs ys => by rw [PyData.eqv]; exact eqs_of xs ys⟩
instance [D : Dat K t] : Dat K (fun xs : List α => yLst K t xs) := ⟨fun xs => .list (xs.map D.enc), fun xs S H v ⟨a, vs, e, h1, h2, _⟩ => e ▸ .lst h1.1 (dps_of h2), fun xs => by rw [PyData.plain]; exact pls_of xs, D.n + 1, fun xs S H v ⟨a, vs, e, h1, h2, _⟩ => by rw [PyData.depth]; have := deps_of (K := K) h2; omega, fun xs ys => by rw [PyData.eqv]; exact eqs_of xs ys⟩
instance [D : Dat K t] [D' : Dat K u] : Dat K (yPr K t u) := ⟨fun x => .tuple [D.enc x.1, D'.enc x.2], fun x S H v ⟨a, vs, e, h1, h2, _⟩ => by
    subst e
    match vs, h2 with
    | [v1, v2], h2 => exact .tup h1 (.cons (D.dp _ _ _ _ h2.1) (.cons (D'.dp _ _ _ _ h2.2.1) .nil)), fun x => by simp [PyData.plain, PyData.plainAll, D.pl, D'.pl], max D.n D'.n + 1, fun x S H v ⟨a, vs, e, h1, h2, _⟩ => by
    match vs, h2 with
    | [v1, v2], h2 => simp only [PyData.depth, PyData.depthAll]; have := D.dep _ _ _ _ h2.1; have := D'.dep _ _ _ _ h2.2.1; omega, fun x y => by
    simp only [PyData.eqv, PyData.eqvAll, Bool.and_true, Bool.and_eq_true, D.eq, D'.eq]
    exact ⟨fun h => Prod.ext h.1 h.2, fun h => by rw [h]; exact ⟨rfl, rfl⟩⟩⟩
instance [D : Dat K t] [D' : Dat K u] [D2 : Dat K w] : Dat K (yTr K t u w) := ⟨fun x => .tuple [D.enc x.1, D'.enc x.2.1, D2.enc x.2.2], fun x S H v ⟨a, vs, e, h1, h2, _⟩ => by
    subst e
    match vs, h2 with
    | [v1, v2, v3], h2 => exact .tup h1 (.cons (D.dp _ _ _ _ h2.1) (.cons (D'.dp _ _ _ _ h2.2.1) (.cons (D2.dp _ _ _ _ h2.2.2.1) .nil))), fun x => by simp [PyData.plain, PyData.plainAll, D.pl, D'.pl, D2.pl], max D.n (max D'.n D2.n) + 1, fun x S H v ⟨a, vs, e, h1, h2, _⟩ => by
    match vs, h2 with
    | [v1, v2, v3], h2 => simp only [PyData.depth, PyData.depthAll]; have := D.dep _ _ _ _ h2.1; have := D'.dep _ _ _ _ h2.2.1; have := D2.dep _ _ _ _ h2.2.2.1; omega, fun x y => by
    simp only [PyData.eqv, PyData.eqvAll, Bool.and_true, Bool.and_eq_true, D.eq, D'.eq, D2.eq]
    exact ⟨fun h => Prod.ext h.1 (Prod.ext h.2.1 h.2.2), fun h => by rw [h]; exact ⟨rfl, rfl, rfl⟩⟩⟩
end
section
variable {ρ : Type} {A : Nat → Addr} {E : L2.St → XK} {K : PySem.W.Frag} {Γ : Ctx} {c : Res ρ} {κ : Ctx → Vo → Res ρ → Prop} {P P' : Pv} {ps qs : List Pv} {α β : Type} {t : α → Pv} {td ty tx te ta tb : TE} {Δ : Dl ρ}
theorem rx_neD [DecidableEq α] [D : Dat K t] (hn : D.n ≤ 32) {x y : α} (h : κ Γ (.val (yBl (!decide (x = y)))) c) : RX A E (Sl.rNeP K) (t x) (t y) Γ c κ := fun F T S σ H v w Q O R hc h1 h2 k => by
  refine ⟨_, _, D.dp _ _ _ _ h1, D.dp _ _ _ _ h2, ⟨D.pl x, Nat.le_trans (D.dep _ _ _ _ h1) hn⟩, ⟨D.pl y, Nat.le_trans (D.dep _ _ _ _ h2) hn⟩, ?_⟩
  have e : PyData.eqv (D.enc x) (D.enc y) = decide (x = y) := by rw [Bool.eq_iff_iff, D.eq]; simp
  rw [e]
  exact k _ _ _ h S H _ R Le.refl rfl hc
theorem any_of [DecidableEq α] [D : Dat K t] (x : α) : ∀ ys : List α, ((ys.map D.enc).any fun z => PyData.eqv z (D.enc x)) = decide (x ∈ ys)
  | [] => by simp
  | y :: ys => by
    rw [List.map_cons, List.any_cons, any_of x ys]
    have e : PyData.eqv (D.enc y) (D.enc x) = decide (y = x) := by rw [Bool.eq_iff_iff, D.eq]; simp
    rw [e, Bool.eq_iff_iff]
    simp only [Bool.or_eq_true, decide_eq_true_eq, List.mem_cons]
    exact ⟨fun h => h.imp Eq.symm id, fun h => h.imp Eq.symm id⟩
/-- x in ys, ys a list, a tuple or either -/
class SeqK (K : PySem.W.Frag) (p : List Pv → Pv) where
  sq : ∀ ps S H v, (p ps).p S H v → ∃ a vs, v = .ref a ∧ (SqL K H a vs ∨ SqT K H a vs) ∧ PsOk S H vs ps ∧ vs.length ≤ sizeLine
instance : SeqK K (pLst K) := ⟨fun ps S H v ⟨a, vs, e, h1, h2, h3⟩ => ⟨a, vs, e, .inl h1.1, h2, h3⟩⟩
instance : SeqK K (pTup K) := ⟨fun ps S H v ⟨a, vs, e, h1, h2, h3⟩ => ⟨a, vs, e, .inr h1, h2, h3⟩⟩
instance : SeqK K (pSeq K) := ⟨fun ps S H v h => h.elim (fun ⟨a, vs, e, h1, h2, h3⟩ => ⟨a, vs, e, .inl h1.1, h2, h3⟩) fun ⟨a, vs, e, h1, h2, h3⟩ => ⟨a, vs, e, .inr h1, h2, h3⟩⟩
theorem rx_inD (p : List Pv → Pv) [Q : SeqK K p] [DecidableEq α] [D : Dat K t] (hn : D.n ≤ 32) {x : α} {ys : List α} (h : κ Γ (.val (yBl (decide (x ∈ ys)))) c) : RX A E (Sl.rInP K false) (t x) (p (ys.map t)) Γ c κ := fun F T S σ H v w Q' O R hc h1 h2 k => by
  obtain ⟨a, vs, rfl, hs, hv, _⟩ := Q.sq _ _ _ _ h2
  refine ⟨_, ys.map D.enc, D.dp _ _ _ _ h1, hs.imp (fun h => .lst h (dps_of hv)) fun h => .tup h (dps_of hv), ⟨D.pl x, Nat.le_trans (D.dep _ _ _ _ h1) hn⟩, pls_of ys, ?_⟩
  rw [any_of]
  exact k _ _ _ h S H _ R Le.refl rfl hc
/-! subscripts -/
theorem atI_of {S : Fz} {H : Hp} {vs : List V} {i : Int} (h : PsOk S H vs ps) : ∀ {P}, atI ps i = some P → ∃ v, atI vs i = some v ∧ P.p S H v := fun {P} e => by
  unfold atI at e ⊢
  rw [h.length]
  cases z : ixN ps.length i with
  | none => rw [z] at e; cases e
  | some j =>
    rw [z] at e
    exact h.at' e
theorem atI_map {i : Int} {xs : List α} {f : α → β} {x : α} (h : atI xs i = some x) : atI (xs.map f) i = some (f x) := by
  unfold atI at h ⊢
  rw [List.length_map]
  cases z : ixN xs.length i with
  | none => rw [z] at h; cases h
  | some j =>
    rw [z] at h
    show (xs.map f)[j]? = _
    have h : xs[j]? = some x := h
    rw [List.getElem?_map, h]; rfl
theorem rx_ixT {i : Int} (hi : atI ps i = some P) (h : κ Γ (.val P) c) : RX A E (rIxT K) (pTup K ps) (yInt i) Γ c κ := fun F T S σ H v w Q O R hc h1 h2 k => by
  obtain ⟨a, vs, rfl, hs, hv, _⟩ := h1
  obtain ⟨v, e, hp⟩ := atI_of hv hi
  exact ⟨a, vs, i, v, rfl, h2, hs, e, k _ _ _ h S H _ R Le.refl hp hc⟩
theorem pidx_of {xs : List α} {i : Int} {k : α → Res ρ} {T : Res ρ → Prop} (nb : ¬ T .bad) (h : T ((pidx xs i).bind k)) : ∃ x, atI xs i = some x ∧ T (k x) := by
  unfold pidx at h
  cases e : atI xs i with
  | none => rw [e] at h; exact absurd h nb
  | some x => rw [e] at h; exact ⟨x, rfl, h⟩
theorem rx_ixTp {xs : List α} {i : Int} {k : α → Res ρ} (e : c = (pidx xs i).bind k) (h : ∀ x, κ Γ (.val (t x)) (k x)) : RX A E (rIxT K) (yTup K t xs) (yInt i) Γ c κ := fun F T S σ H v w Q O R hc h1 h2 kk => by
  subst e
  obtain ⟨x, hx, hT⟩ := pidx_of O.nb hc
  exact rx_ixT (A := A) (E := E) (K := K) (c := k x) (κ := κ) (atI_map hx) (h x) F T S σ H v w Q O R hT h1 h2 kk
theorem rx_ixLp {xs : List α} {i : Int} {k : α → Res ρ} (e : c = (pidx xs i).bind k) (h : ∀ x, κ Γ (.val (t x)) (k x)) : RX A E (rIxL K) (yLst K t xs) (yInt i) Γ c κ := fun F T S σ H v w Q O R hc h1 h2 kk => by
  subst e
  obtain ⟨x, hx, hT⟩ := pidx_of O.nb hc
  obtain ⟨a, vs, rfl, hs, hv, _⟩ := h1
  obtain ⟨v, e, hp⟩ := atI_of hv (atI_map (f := t) hx)
  exact ⟨a, vs, i, v, rfl, h2, hs.1, e, kk _ _ _ (h x) S H _ R Le.refl hp hT⟩
/-! slices -/
theorem cut_ok {S : Fz} {H : Hp} {vs : List V} {lo hi : Option Int} (h : PsOk S H vs ps) : PsOk S H (cutV vs lo hi) (pcut ps lo hi) := by
  unfold cutV pcut
  rw [h.length]
  exact PsOk.take _ (PsOk.drop _ h)
theorem pcut_map {lo hi : Option Int} {xs : List α} {f : α → β} : pcut (xs.map f) lo hi = (pcut xs lo hi).map f := by
  unfold pcut
  rw [List.length_map, List.map_take, List.map_drop]
theorem cutV_le {vs : List V} {lo hi : Option Int} : (cutV vs lo hi).length ≤ vs.length := by
  unfold cutV
  rw [List.length_take, List.length_drop]; omega
/-- the bounds -/
def WO (A : Nat → Addr) (E : L2.St → XK) (Γ : Ctx) (t : TO) (c : Res ρ) (κ : Ctx → Option Int → Res ρ → Prop) : Prop :=
  ∀ (F : Fr) (T : Res ρ → Prop) (S : Fz) (σ : L2.St) (H : Hp) (Q : Option Int → Hp → Prop), Ok0 A (E σ) F T → Rel F Γ S σ H → T c →
    (∀ Γ' b c', κ Γ' b c' → ∀ S' H', Rel F Γ' S' σ H' → Le S H S' H' → T c' → Q b H') → t σ H Q
theorem wo_no {κ : Ctx → Option Int → Res ρ → Prop} (h : κ Γ none c) : WO A E Γ tNoPart c κ := fun F T S σ H Q O R hc k => k _ _ _ h S H R Le.refl hc
theorem wo_some {κ : Ctx → Option Int → Res ρ → Prop} (h : WX A E Γ te c fun Γ1 V c1 => ∃ i, V = .val (yInt i) ∧ κ Γ1 (some i) c1) : WO A E Γ (tPart te) c κ := fun F T S σ H Q O R hc k => by
  refine h F T S σ H _ O R hc fun Γ1 V c1 h1 S1 H1 x R1 l1 p1 hc1 => ?_
  obtain ⟨i, rfl, h1⟩ := h1
  exact ⟨i, p1, k _ _ _ h1 S1 H1 R1 l1 hc1⟩
theorem wx_slT {tl th : TO} (h : WX A E Γ te c fun Γ1 V c1 => ∃ ps, V = .val (pTup K ps) ∧ WO A E Γ1 tl c1 fun Γ2 lo c2 => WO A E Γ2 th c2 fun Γ3 hi c3 => κ Γ3 (.val (pTup K (pcut ps lo hi))) c3) : WX A E Γ (tSl (rSlA K) te tl th) c κ := fun F T S σ H Q O R hc k => by
  refine h F T S σ H _ O R hc fun Γ1 V c1 h1 S1 H1 x R1 l1 p1 hc1 => ?_
  obtain ⟨ps, rfl, h1⟩ := h1
  refine h1 F T S1 σ H1 _ O R1 hc1 fun Γ2 lo c2 h2 S2 H2 R2 l2 hc2 => ?_
  refine h2 F T S2 σ H2 _ O R2 hc2 fun Γ3 hi c3 h3 S3 H3 R3 l3 hc3 => ?_
  obtain ⟨a, vs, rfl, hs, hv, hl⟩ := (pTup K ps).up (l2.trans l3) p1
  have l13 := (l1.trans l2).trans l3
  have hc := cut_ok (lo := lo) (hi := hi) hv
  have hl' : (cutV vs lo hi).length ≤ sizeLine := Nat.le_trans cutV_le hl
  refine ⟨a, vs, rfl, hs, fun w => ?_, fun _ p hp => ?_⟩
  · have e : cutV vs lo hi = vs := by unfold cutV; rw [w.1, w.2]; simp
    rw [e] at hc
    exact k _ _ _ h3 S3 H3 _ R3 l13 ⟨a, vs, rfl, hs, hc, hl⟩ hc3
  · exact k _ _ _ h3 S3 _ _ (R3.new hp) (l13.trans (le_new hp)) ⟨p, _, rfl, .inl (.inl upd_same), hc.up (le_new hp), hl'⟩ hc3
theorem wx_slL {tl th : TO} (h : WX A E Γ te c fun Γ1 V c1 => ∃ ps, V = .val (pLst K ps) ∧ WO A E Γ1 tl c1 fun Γ2 lo c2 => WO A E Γ2 th c2 fun Γ3 hi c3 => κ Γ3 (.own (oLst K (pcut ps lo hi))) c3) : WX A E Γ (tSl (rSlL K) te tl th) c κ := fun F T S σ H Q O R hc k => by
  refine h F T S σ H _ O R hc fun Γ1 V c1 h1 S1 H1 x R1 l1 p1 hc1 => ?_
  obtain ⟨ps, rfl, h1⟩ := h1
  refine h1 F T S1 σ H1 _ O R1 hc1 fun Γ2 lo c2 h2 S2 H2 R2 l2 hc2 => ?_
  refine h2 F T S2 σ H2 _ O R2 hc2 fun Γ3 hi c3 h3 S3 H3 R3 l3 hc3 => ?_
  obtain ⟨a, vs, rfl, hs, hv, hl⟩ := (pLst K ps).up (l2.trans l3) p1
  refine ⟨a, vs, rfl, hs.1, fun p hp => ?_⟩
  exact k _ _ _ h3 S3 _ _ (R3.new hp) (((l1.trans l2).trans l3).trans (le_new hp)) (isOwn R3 hp ⟨_, rfl, (cut_ok hv).up (le_new hp), Nat.le_trans cutV_le hl⟩) hc3
/-! + of lists and tuples -/
theorem pcat_of {xs ys : List α} {k : List α → Res ρ} {T : Res ρ → Prop} (nb : ¬ T .bad) (h : T ((pcat xs ys).bind k)) : xs.length + ys.length ≤ 100000 ∧ T (k (xs ++ ys)) := by
  unfold pcat at h
  by_cases z : xs.length + ys.length ≤ 100000
  · rw [if_pos z] at h; exact ⟨z, h⟩
  · rw [if_neg z] at h; exact absurd h nb
theorem rx_catL {xs ys : List α} {k : List α → Res ρ} (e : c = (pcat xs ys).bind k) (h : κ Γ (.own (wLst K t (xs ++ ys))) (k (xs ++ ys))) : RX A E (rCatS K) (yLst K t xs) (yLst K t ys) Γ c κ := fun F T S σ H v w Q O R hc h1 h2 kk => by
  subst e
  obtain ⟨hz, hT⟩ := pcat_of O.nb hc
  obtain ⟨a, vs, rfl, hs, hv, hl⟩ := h1
  obtain ⟨b, ws, rfl, hs', hv', hl'⟩ := h2
  have e1 := hv.length
  have e2 := hv'.length
  rw [List.length_map] at e1 e2
  have ha : PsOk S H (vs ++ ws) ((xs ++ ys).map t) := by rw [List.map_append]; exact hv.app hv'
  exact ⟨a, b, vs, ws, rfl, rfl, hs.1, hs'.1, sz (by omega), fun p hp => kk _ _ _ h S _ _ (R.new hp) (le_new hp) (isOwn R hp ⟨_, rfl, ha.up (le_new hp), sz (by rw [List.length_append]; omega)⟩) hT⟩
/-! ints -/
theorem rx_it {C : Int → Int → Prop} {g : Int → Int → V} {f : Int → Int → Int} {x y : Int} (hC : C x y) (hg : g x y = .int (f x y)) (h : κ Γ (.val (yInt (f x y))) c) : RX A E (rI C g) (yInt x) (yInt y) Γ c κ := fun F T S σ H v w Q O R hc h1 h2 k => ⟨x, y, h1, h2, hC, k _ _ _ h S H _ R Le.refl hg hc⟩
theorem rx_mod {g : Int → Int → V} {x y : Int} {k : Int → Res ρ} (hg : g x y = .int (x % y)) (e : c = (pmod x y).bind k) (h : ∀ z, κ Γ (.val (yInt z)) (k z)) : RX A E (rI (fun _ j => 0 < j) g) (yInt x) (yInt y) Γ c κ := fun F T S σ H v w Q O R hc h1 h2 kk => by
  subst e
  unfold pmod at hc
  by_cases z : 0 < y
  · rw [if_pos z] at hc
    exact ⟨x, y, h1, h2, z, kk _ _ _ (h _) S H _ R Le.refl hg hc⟩
  · rw [if_neg z] at hc; exact absurd hc O.nb
theorem rx_div {g : Int → Int → V} {x y : Int} {k : Int → Res ρ} (hg : g x y = .int (x / y)) (e : c = (pdiv x y).bind k) (h : ∀ z, κ Γ (.val (yInt z)) (k z)) : RX A E (rI CDiv g) (yInt x) (yInt y) Γ c κ := fun F T S σ H v w Q O R hc h1 h2 kk => by
  subst e
  unfold pdiv at hc
  by_cases z : 0 < y ∧ y < 1073741824
  · rw [if_pos z] at hc
    exact ⟨x, y, h1, h2, z, kk _ _ _ (h _) S H _ R Le.refl hg hc⟩
  · rw [if_neg z] at hc; exact absurd hc O.nb
theorem rx_mul {g : Int → Int → V} {x y : Int} {k : Int → Res ρ} (hg : g x y = .int (x * y)) (e : c = (pmul x y).bind k) (h : ∀ z, κ Γ (.val (yInt z)) (k z)) : RX A E (rI CMul g) (yInt x) (yInt y) Γ c κ := fun F T S σ H v w Q O R hc h1 h2 kk => by
  subst e
  unfold pmul at hc
  by_cases z : (-(2 ^ 64) < x ∧ x < 2 ^ 64) ∨ (-(2 ^ 64) < y ∧ y < 2 ^ 64)
  · rw [if_pos z] at hc
    exact ⟨x, y, h1, h2, z, kk _ _ _ (h _) S H _ R Le.refl hg hc⟩
  · rw [if_neg z] at hc; exact absurd hc O.nb
theorem rx_cmp {g : Int → Int → V} {x y : Int} {b : Bool} (hg : g x y = .bl b) (h : κ Γ (.val (yBl b)) c) : RX A E (rI0 g) (yInt x) (yInt y) Γ c κ := fun F T S σ H v w Q O R hc h1 h2 k => ⟨x, y, h1, h2, k _ _ _ h S H _ R Le.refl hg hc⟩
theorem rx_ari {g : Int → Int → V} {x y z : Int} (hg : g x y = .int z) (h : κ Γ (.val (yInt z)) c) : RX A E (rI0 g) (yInt x) (yInt y) Γ c κ := fun F T S σ H v w Q O R hc h1 h2 k => ⟨x, y, h1, h2, k _ _ _ h S H _ R Le.refl hg hc⟩
theorem ru_neg {x : Int} (h : κ Γ (.val (yInt (-x))) c) : RU A E (rU fun i => .int (-i)) (yInt x) Γ c κ := fun F T S σ H v Q O R hc h1 k => ⟨x, h1, k _ _ _ h S H _ R Le.refl rfl hc⟩
/-! x is None -/
theorem rx_isN {x : Option α} (hx : ∀ x S H v, (t x).p S H v → v ≠ .non) (h : κ Γ (.val (yBl x.isNone)) c) : RX A E (fun x y H Q => y = .non ∧ Q (.bl (decide (x = .non))) H) (yOpt t x) yNon Γ c κ := fun F T S σ H v w Q O R hc h1 h2 k => by
  refine ⟨h2, ?_⟩
  have e : decide (v = .non) = x.isNone := by
    cases x with
    | none => have : v = .non := h1; simp [this]
    | some x => have : v ≠ .non := hx x S H v h1; simp [this]
  rw [e]
  exact k _ _ _ h S H _ R Le.refl rfl hc
theorem rx_notN {x : Option α} (hx : ∀ x S H v, (t x).p S H v → v ≠ .non) (h : κ Γ (.val (yBl x.isSome)) c) : RX A E (fun x y H Q => y = .non ∧ Q (.bl (!decide (x = .non))) H) (yOpt t x) yNon Γ c κ := fun F T S σ H v w Q O R hc h1 h2 k => by
  refine ⟨h2, ?_⟩
  have e : (!decide (v = .non)) = x.isSome := by
    cases x with
    | none => have : v = .non := h1; simp [this]
    | some x => have : v ≠ .non := hx x S H v h1; simp [this]
  rw [e]
  exact k _ _ _ h S H _ R Le.refl rfl hc
/-! ### calls of built-ins -/
theorem ag1 {σ : L2.St} {S : Fz} {H : Hp} {vs : List V} (h : AgsOk σ S H vs [.val P]) : ∃ v, vs = [v] ∧ P.p S H v := by
  match vs, h with
  | [v], h => exact ⟨v, rfl, h.1⟩
theorem ag2 {σ : L2.St} {S : Fz} {H : Hp} {vs : List V} (h : AgsOk σ S H vs [.val P, .val P']) : ∃ v w, vs = [v, w] ∧ P.p S H v ∧ P'.p S H w := by
  match vs, h with
  | [v, w], h => exact ⟨v, w, rfl, h.1, h.2.1⟩
theorem rc_lenSq (p : List Pv → Pv) [Q : SeqK K p] (h : κ Γ (.val (yInt (ps.length : Int))) c) : RC A E (fun _ => Sl.rLenK K) [.val (p ps)] Γ c κ := fun F T S σ H vs Q' O R hc hg k => by
  obtain ⟨v, rfl, hv⟩ := ag1 hg
  obtain ⟨a, ws, rfl, hs, hw, _⟩ := Q.sq _ _ _ _ hv
  refine ⟨_, ps.length, rfl, hs.imp (fun h => ⟨ws, h, hw.length.symm⟩) fun h => ⟨ws, h, hw.length.symm⟩, k _ _ _ h S H _ R Le.refl rfl hc⟩
theorem rc_list (p : List Pv → Pv) [Q : SeqK K p] (h : κ Γ (.own (oLst K ps)) c) : RC A E (fun _ => Sl.rListOf K) [.val (p ps)] Γ c κ := fun F T S σ H vs Q' O R hc hg k => by
  obtain ⟨v, rfl, hv⟩ := ag1 hg
  obtain ⟨a, ws, rfl, hs, hw, hl⟩ := Q.sq _ _ _ _ hv
  exact ⟨a, ws, rfl, hs, fun l hp => k _ _ _ h S _ _ (R.new hp) (le_new hp) (isOwn R hp ⟨ws, rfl, hw.up (le_new hp), hl⟩) hc⟩
theorem rc_tuple (p : List Pv → Pv) [Q : SeqK K p] (h : κ Γ (.val (pTup K ps)) c) : RC A E (fun _ => Sl.rTupleOf K) [.val (p ps)] Γ c κ := fun F T S σ H vs Q' O R hc hg k => by
  obtain ⟨v, rfl, hv⟩ := ag1 hg
  obtain ⟨a, ws, rfl, hs, hw, hl⟩ := Q.sq _ _ _ _ hv
  rcases hs with hs | hs
  · exact ⟨a, ws, rfl, .inl ⟨hs, fun l hp => k _ _ _ h S _ _ (R.new hp) (le_new hp) ⟨l, ws, rfl, .inl (.inl upd_same), hw.up (le_new hp), hl⟩ hc⟩⟩
  · exact ⟨a, ws, rfl, .inr ⟨hs, k _ _ _ h S H _ R Le.refl ⟨a, ws, rfl, hs, hw, hl⟩ hc⟩⟩
theorem of_ints {S : Fz} {H : Hp} : ∀ (xs : List Int), PsOk S H (xs.map V.int) (xs.map yInt)
  | [] => trivial
  | x :: xs => ⟨rfl, of_ints xs⟩
theorem rc_int1 {x : Int} (h : κ Γ (.val (yInt x)) c) : RC A E (fun _ xs H Q => (∃ i, xs = [.int i] ∧ Q (.int i) H) ∨ ∃ k, xs = [.bl k] ∧ Q (.int (if k then 1 else 0)) H) [.val (yInt x)] Γ c κ := fun F T S σ H vs Q' O R hc hg kk => by
  obtain ⟨v, rfl, hv⟩ := ag1 hg
  exact .inl ⟨x, by rw [show v = .int x from hv], kk _ _ _ h S H _ R Le.refl rfl hc⟩
/-! isinstance, whose answer the kind tells -/
class HasTy (K : PySem.W.Frag) {α : Type} (t : α → Pv) (T : outParam String) where
  ty : ∀ x S H v, (t x).p S H v → TyX K H v (.type T)
def yCls (T : String) : Pv := ⟨fun _ _ v => v = .ty T, fun _ h => h⟩
theorem rc_isi {T1 T2 : String} [I : HasTy K t T1] {x : α} {b : Bool} (hb : PySem.W.kitOne K (.type T1) (.type T2) = some b) (h : κ Γ (.val (yBl b)) c) : RC A E (fun _ => rIsi K) [.val (t x), .val (yCls T2)] Γ c κ := fun F T S σ H vs Q' O R hc hg kk => by
  obtain ⟨v, w, rfl, hv, hw⟩ := ag2 hg
  cases hw
  exact ⟨v, _, _, _, b, rfl, .ty T2, I.ty x S H v hv, hb, kk _ _ _ h S H _ R Le.refl rfl hc⟩
end
end Mi
namespace Mi
open PySem PySem.Spec PyProof.Rows L2
open Sl (isTup sz szl slt)
/-! ### objects that do not change -/
def FlOk (S : Fz) (H : Hp) : List (Str × V) → List (Str × Pv) → Prop
  | [], [] => True
  | kv :: kvs, kp :: kps => (kv.1 = kp.1 ∧ kp.2.p S H kv.2) ∧ FlOk S H kvs kps
  | _, _ => False
section
variable {S S' : Fz} {H H' : Hp}
theorem FlOk.up (l : Le S H S' H') : ∀ {vs : List (Str × V)} {ps : List (Str × Pv)}, FlOk S H vs ps → FlOk S' H' vs ps
  | [], [], _ => trivial
  | [], _ :: _, h => False.elim h
  | _ :: _, [], h => False.elim h
  | _ :: _, P :: _, h => ⟨⟨h.1.1, P.2.up l h.1.2⟩, FlOk.up l h.2⟩
theorem FlOk.none {m : Str} : ∀ {vs : List (Str × V)} {ps : List (Str × Pv)}, FlOk S H vs ps → (ps.map (·.1)).contains m = false → vs.lookup m = none
  | [], [], _, _ => rfl
  | [], _ :: _, h, _ => False.elim h
  | _ :: _, [], h, _ => False.elim h
  | (n, v) :: vs, (n', P) :: ps, h, e => by
    have hn : n = n' := h.1.1
    rw [List.map_cons, List.contains_cons, Bool.or_eq_false_iff] at e
    rw [List.lookup_cons, hn, e.1]
    exact FlOk.none h.2 e.2
theorem FlOk.look {m : Str} {P : Pv} : ∀ {vs : List (Str × V)} {ps : List (Str × Pv)}, FlOk S H vs ps → ps.lookup m = some P → ∃ v, vs.lookup m = some v ∧ P.p S H v
  | [], [], _, e => by cases e
  | [], _ :: _, h, _ => False.elim h
  | _ :: _, [], h, _ => False.elim h
  | (n, v) :: vs, (n', P') :: ps, h, e => by
    have hn : n = n' := h.1.1
    subst hn
    rw [List.lookup_cons] at e ⊢
    split
    · next q => rw [q] at e; cases e; exact ⟨v, rfl, h.1.2⟩
    · next q => rw [q] at e; exact FlOk.look h.2 e
end
def pObj (C : Addr) (fs : List (Str × Pv)) : Pv := ⟨fun S H v => ∃ a dx vs, v = .ref a ∧ S a ∧ H a = some (.ins C dx vs) ∧ FlOk S H vs fs, fun l ⟨a, dx, vs, h1, h2, h3, h4⟩ => ⟨a, dx, vs, h1, l.fz a h2, l.ins h3 h2, h4.up l⟩⟩
instance {K : PySem.W.Frag} : HasTy K yInt "int" := ⟨fun x S H v h => h ▸ .base (.int x)⟩
instance {K : PySem.W.Frag} : HasTy K yStr "str" := ⟨fun x S H v h => h ▸ .base (.str x)⟩
instance {K : PySem.W.Frag} : HasTy K yBl "bool" := ⟨fun x S H v h => h ▸ .base (.bl x)⟩
instance {K : PySem.W.Frag} {κ α : Type} [DKey κ] {t : α → Pv} : HasTy K (fun d : List (κ × α) => yDct t d) "dict" := ⟨fun x S H v ⟨a, kvs, e, _, h, _⟩ => e ▸ h.elim (fun h => .base (.dK h)) fun ⟨z, h⟩ => .fDict h⟩
theorem ty_tup {K : PySem.W.Frag} {H : Hp} {a : Addr} {xs : List V} (h : SqT K H a xs) : TyX K H (.ref a) (.type "tuple") := by
  rcases h with (h | ⟨z, h⟩) | h
  · exact .base (.tup h)
  · exact .fTuple h
  · obtain ⟨o, its, n, h1, h2, _⟩ := h
    exact .kTuple h1 h2
instance {K : PySem.W.Frag} {α : Type} {t : α → Pv} : HasTy K (fun xs : List α => yTup K t xs) "tuple" := ⟨fun x S H v ⟨a, vs, e, h, _⟩ => e ▸ ty_tup h⟩
instance {K : PySem.W.Frag} {α β : Type} {t : α → Pv} {u : β → Pv} : HasTy K (yPr K t u) "tuple" := ⟨fun x S H v ⟨a, vs, e, h, _⟩ => e ▸ ty_tup h⟩
instance {K : PySem.W.Frag} {α β γ : Type} {t : α → Pv} {u : β → Pv} {w : γ → Pv} : HasTy K (yTr K t u w) "tuple" := ⟨fun x S H v ⟨a, vs, e, h, _⟩ => e ▸ ty_tup h⟩
instance {K : PySem.W.Frag} {α : Type} {t : α → Pv} : HasTy K (fun xs : List α => yLst K t xs) "list" := ⟨fun x S H v ⟨a, vs, e, h, _⟩ => e ▸ (by
  rcases h.1 with (h | ⟨z, h⟩) | ⟨o, its, n, h1, h2, _⟩
  · exact .base (.lst h)
  · exact .base (.frz h)
  · exact .kList h1 h2)⟩
section
variable {ρ : Type} {A : Nat → Addr} {E E' : L2.St → XK} {K : PySem.W.Frag} {Γ : Ctx} {c : Res ρ} {κ : Ctx → Vo → Res ρ → Prop} {P P' : Pv} {ps qs : List Pv} {α β : Type} {t : α → Pv} {td ty tx te ta tb : TE} {tr : TA} {Δ : Dl ρ} {i : Nat} {C : Addr}
/-- a field -/
theorem wx_fld {f : Str} (hcl : Cls K C) (hn : NoAttr K C f) (h : WX A E Γ ta c fun Γ1 V c1 => ∃ fs P, V = .val (pObj C fs) ∧ fs.lookup f = some P ∧ κ Γ1 (.val P) c1) : WX A E Γ (tFld K ta f) c κ := fun F T S σ H Q O R hc k => by
  refine h F T S σ H _ O R hc fun Γ1 V c1 h1 S1 H1 x R1 l1 p1 hc1 => ?_
  obtain ⟨fs, P, rfl, hl, h1⟩ := h1
  obtain ⟨a, dx, vs, rfl, hs, ha, hf⟩ := p1
  obtain ⟨v, e, hp⟩ := hf.look hl
  exact ⟨a, C, dx, vs, v, rfl, ha, hcl, hn, e, k _ _ _ h1 S1 H1 v R1 l1 hp hc1⟩
/-! ### lists that are owned -/
theorem psnoc_of {xs : List α} {y : α} {k : List α → Res ρ} {T : Res ρ → Prop} (nb : ¬ T .bad) (h : T ((psnoc xs y).bind k)) : xs.length < 100000 ∧ T (k (xs ++ [y])) := by
  unfold psnoc at h
  by_cases z : xs.length < 100000
  · rw [if_pos z] at h; exact ⟨z, h⟩
  · rw [if_neg z] at h; exact absurd h nb
/-- xs.append(e): the list is i's own; e may change what is held -/
theorem ws_append (t : α → Pv) {b : Bool} {xs0 : List α} (hg : Γ[i]? = some (.own b (wLst K t xs0))) (h : WX A E Γ te c fun Γ1 V c1 => ∃ b xs y k, V = .val (t y) ∧ Γ1[i]? = some (.own b (wLst K t xs)) ∧ c1 = (psnoc xs y).bind k ∧ ∀ zs, Δ.nx (Γ1.set i (.own b (wLst K t zs))) (k zs)) :
    WS A E Γ (tDrop (tBM K "list" rAppend (tVar i) (tCons te tNil))) c Δ := fun F T S σ H D O R hc d => by
  obtain ⟨a, o, e1, e2, ⟨vs, rfl, e3, _⟩, e4, e5, _⟩ := R.own i b _ hg
  refine ⟨_, e1, .inl ⟨rfl, vs, .inl (.inl e2)⟩, ?_⟩
  refine h F T S σ H _ (O σ) R hc fun Γ1 V c1 h1 S1 H1 x R1 l1 p1 hc1 => ?_
  obtain ⟨b', xs, y, k, rfl, hg1, rfl, h1⟩ := h1
  obtain ⟨hl, hT⟩ := psnoc_of (O σ).nb hc1
  obtain ⟨a', o, w1, w2, ⟨ws, rfl, w3, w4⟩, w5, w6, _⟩ := R1.own i b' _ hg1
  rw [e1] at w1; cases w1
  have hlen : ws.length = xs.length := by have := w3.length; rwa [List.length_map] at this
  have lm := le_mut (o' := .lst (ws ++ [x])) w2 w5 rfl
  have hw : (wLst K t (xs ++ [y])).w S1 (upd H1 a (.lst (ws ++ [x]))) (.lst (ws ++ [x])) := ⟨_, rfl, by rw [List.map_append]; exact (w3.snoc p1).up lm, sz (by rw [List.length_append]; simp; omega)⟩
  obtain ⟨l2, R2⟩ := R1.mut (O' := wLst K t (xs ++ [y])) (o' := .lst (ws ++ [x])) hg1 e1 fun _ _ _ => hw
  exact ⟨a, ws, x, rfl, rfl, w2, szl (by omega), d.nx _ _ (h1 _) S1 σ _ R2 (l1.trans l2) hT⟩
/-- xs[k] = e, the list is i's own -/
theorem pset_of {xs : List α} {z : Int} {y : α} {k : List α → Res ρ} {T : Res ρ → Prop} (nb : ¬ T .bad) (h : T ((pset xs z y).bind k)) : ∃ j, ixN xs.length z = some j ∧ T (k (xs.set j y)) := by
  unfold pset at h
  cases e : ixN xs.length z with
  | none => rw [e] at h; exact absurd h nb
  | some j => rw [e] at h; exact ⟨j, rfl, h⟩
theorem ws_lset (t : α → Pv) (h : WX A E Γ te c fun Γ1 V c1 => ∃ y, V = .val (t y) ∧ (∃ b O, Γ1[i]? = some (.own b O)) ∧ WX A E Γ1 ty c1 fun Γ2 V2 c2 => ∃ b xs z k, V2 = .val (yInt z) ∧ Γ2[i]? = some (.own b (wLst K t xs)) ∧ c2 = (pset xs z y).bind k ∧ ∀ zs, Δ.nx (Γ2.set i (.own b (wLst K t zs))) (k zs)) :
    WS A E Γ (tAsg te (gSub (tVar i) ty rSetL)) c Δ := fun F T S σ H D O R hc d => by
  refine h F T S σ H _ (O σ) R hc fun Γ1 V c1 h1 S1 H1 x R1 l1 p1 hc1 => ?_
  obtain ⟨y, rfl, ⟨b0, O0, hg0⟩, h1⟩ := h1
  obtain ⟨a0, o0, e0, _⟩ := R1.own i b0 _ hg0
  refine ⟨_, e0, ?_⟩
  refine h1 F T S1 σ H1 _ (O σ) R1 hc1 fun Γ2 V c2 h2 S2 H2 w R2 l2 p2 hc2 => ?_
  obtain ⟨b', xs, z, k, rfl, hg1, rfl, h2⟩ := h2
  obtain ⟨j, hj, hT⟩ := pset_of (O σ).nb hc2
  obtain ⟨a', o, w1, w2, ⟨ws, rfl, w3, w4⟩, w5, w6, _⟩ := R2.own i b' _ hg1
  rw [e0] at w1; cases w1
  have hlen : ws.length = xs.length := by have := w3.length; rwa [List.length_map] at this
  have lm := le_mut (o' := .lst (ws.set j x)) w2 w5 rfl
  have hw : (wLst K t (xs.set j y)).w S2 (upd H2 a0 (.lst (ws.set j x))) (.lst (ws.set j x)) := ⟨_, rfl, by rw [List.map_set]; exact (w3.set j ((t y).up l2 p1)).up lm, by rw [List.length_set]; exact w4⟩
  obtain ⟨l3, R3⟩ := R2.mut (O' := wLst K t (xs.set j y)) (o' := .lst (ws.set j x)) hg1 e0 fun _ _ _ => hw
  exact ⟨a0, ws, z, j, rfl, p2, w2, by rw [hlen]; exact hj, d.nx _ _ (h2 _) S2 σ _ R3 ((l1.trans l2).trans l3) hT⟩
/-! reads of what is owned: afterwards it is owned still -/
def frzC : Ctx → Ctx
  | [] => []
  | .own _ O :: Γ => .val O.pv :: frzC Γ
  | x :: Γ => x :: frzC Γ
theorem frzC_len : ∀ Γ : Ctx, (frzC Γ).length = Γ.length
  | [] => rfl
  | .own _ _ :: Γ => congrArg Nat.succ (frzC_len Γ)
  | .any :: Γ => congrArg Nat.succ (frzC_len Γ)
  | .val _ :: Γ => congrArg Nat.succ (frzC_len Γ)
theorem frzC_at : ∀ {Γ : Ctx} {i : Nat} {x : Slt}, (frzC Γ)[i]? = some x → (∃ b O, Γ[i]? = some (.own b O) ∧ x = .val O.pv) ∨ (Γ[i]? = some x ∧ ∀ b O, x ≠ .own b O)
  | [], _, _, h => by simp [frzC] at h
  | .own b O :: Γ, 0, x, h => by simp only [frzC, List.getElem?_cons_zero] at h; cases h; exact .inl ⟨b, O, rfl, rfl⟩
  | .any :: Γ, 0, x, h => by simp only [frzC, List.getElem?_cons_zero] at h; cases h; exact .inr ⟨rfl, fun _ _ z => nomatch z⟩
  | .val _ :: Γ, 0, x, h => by simp only [frzC, List.getElem?_cons_zero] at h; cases h; exact .inr ⟨rfl, fun _ _ z => nomatch z⟩
  | .own _ _ :: Γ, i + 1, x, h => frzC_at (Γ := Γ) (i := i) (by simpa [frzC] using h)
  | .any :: Γ, i + 1, x, h => frzC_at (Γ := Γ) (i := i) (by simpa [frzC] using h)
  | .val _ :: Γ, i + 1, x, h => frzC_at (Γ := Γ) (i := i) (by simpa [frzC] using h)
theorem Rel.peek {F : Fr} {S : Fz} {σ : L2.St} {H : Hp} (R : Rel F Γ S σ H) : Rel (F.at (fun a => S a ∨ Held Γ σ a) H fun _ => False) (frzC Γ) (fun a => S a ∨ Held Γ σ a) σ H := by
  have l : Le S H (fun a => S a ∨ Held Γ σ a) H := .ex (fun _ h => .inl h) (fun _ _ h _ => h)
  refine ⟨⟨fun _ _ h _ => h, fun _ h => .inl h, fun _ h => h, fun _ h => h, fun a h => h.elim (R.fr.sd a) fun z => z.dom R⟩, R.len.trans (frzC_len Γ).symm, fun i P h => ?_, fun i b O h => ?_, fun i j b b' O O' a h => ?_⟩
  · rcases frzC_at h with ⟨b, O, h1, h2⟩ | ⟨h1, _⟩
    · cases h2
      obtain ⟨a, o, e1, e2, e3, _⟩ := R.own i b O h1
      exact ⟨_, e1, O.to (.inr ⟨i, b, O, h1, e1⟩) e2 (O.up l e3)⟩
    · obtain ⟨v, e, hv⟩ := R.val i P h1
      exact ⟨v, e, P.up l hv⟩
  · rcases frzC_at h with ⟨_, _, _, h2⟩ | ⟨_, h2⟩
    · cases h2
    · exact absurd rfl (h2 b O)
  · rcases frzC_at h with ⟨_, _, _, h2⟩ | ⟨_, h2⟩
    · cases h2
    · exact absurd rfl (h2 b O)
theorem Rel.unpeek {F : Fr} {S S' : Fz} {σ : L2.St} {H H' : Hp} (R : Rel F Γ S σ H) (f : FrOk (F.at (fun a => S a ∨ Held Γ σ a) H fun _ => False) S' H') : Rel F Γ S σ H' ∧ Le S H S H' := by
  have l : Le S H S H' := .ex (fun _ h => h) fun a o h _ => f.kp a o h fun z => z
  refine ⟨R.move l (fun a o h _ => f.kp a o h fun z => z) (fun a h => .inl h) (fun a h => f.dm a (R.fr.sd a h)) (fun a h => f.dm a h) fun i b O a o _ _ h1 h2 => ⟨o, f.kp a o h1 fun z => z, O.up l h2⟩, l⟩
/-- a value that no list stands in -/
def Imm (P : Pv) : Prop := ∀ S S' H v, P.p S H v → P.p S' H v
theorem wx_peek (h : WX A E (frzC Γ) te c fun Γ' V c' => ∃ P, V = .val P ∧ Imm P ∧ κ Γ (.val P) c') : WX A E Γ te c κ := fun F T S σ H Q O R hc k => by
  refine h _ T _ σ H _ ⟨O.nb, fun e z S' H' f => O.er e z S' H' ?_⟩ R.peek hc fun Γ' V c' q S' H' v R' l hv hc' => ?_
  · refine ⟨fun a o h n => f.kp a o (R.fr.kp a o h n) fun z => z, fun a h => ?_, fun a h => f.le a (.inl (R.fr.le a h)), fun a h => f.dm a (R.fr.dm a h), f.sd⟩
    rcases f.fz a h with h | h | h
    · exact h.elim (R.fr.fz a) fun h => (R.hI a h).elim (fun z => .inr (.inr z)) fun z => .inr (.inl z)
    · exact .inr (.inl (R.fr.fresh h))
    · exact h.elim
  · obtain ⟨P, rfl, im, q⟩ := q
    obtain ⟨R2, l2⟩ := R.unpeek R'.fr
    exact k _ _ _ q S H' v R2 l2 (im _ _ _ _ hv) hc'
theorem imm_int {i : Int} : Imm (yInt i) := fun _ _ _ _ h => h
theorem imm_bl {i : Bool} : Imm (yBl i) := fun _ _ _ _ h => h
/-! ### raise, try -/
theorem ws_raise0 {s : TS} {n : Nat} (hE : ∀ D σ H, E σ (.ref (A n)) none H → s D σ H) (hc : c = .err ⟨n, .no⟩) : WS A E Γ s c Δ := fun F T S σ H D O R hT d => by
  subst hc
  exact hE D σ H ((O σ).er _ hT S H R.fr)
/-! ### dicts -/
section
variable {κ' : Type} [DecidableEq κ'] {tk : κ' → Pv} [KV : KeyV κ' tk]
theorem pdget_of {d : List (κ' × α)} {x : κ'} {k : α → Res ρ} {T : Res ρ → Prop} (nb : ¬ T .bad) (h : T ((pdget d x).bind k)) : ∃ y, dlook d x = some y ∧ T (k y) := by
  unfold pdget at h
  cases e : dlook d x with
  | none => rw [e] at h; exact absurd h nb
  | some y => rw [e] at h; exact ⟨y, rfl, h⟩
/-- d[k] = v, d the slot's own -/
theorem pdput_of {d : List (κ' × α)} {x : κ'} {y : α} {k : List (κ' × α) → Res ρ} {T : Res ρ → Prop} (nb : ¬ T .bad) (h : T ((pdput d x y).bind k)) : d.length < 100000 ∧ T (k (dput d x y)) := by
  unfold pdput at h
  by_cases z : d.length < 100000
  · rw [if_pos z] at h; exact ⟨z, h⟩
  · rw [if_neg z] at h; exact absurd h nb
end
/-! min, max with a default -/
end
end Mi
namespace Mi
open PySem PySem.Spec PyProof.Rows L2
open Sl (isTup sz szl slt)
def yUnit (_ : Unit) : Pv := yNon
section
variable {ρ : Type} {A : Nat → Addr} {E E' : L2.St → XK} {K : PySem.W.Frag} {Γ : Ctx} {c : Res ρ} {κ : Ctx → Vo → Res ρ → Prop} {pre : List Ar → Cl → Prop} {gs : List Ag} {ps : List Pv} {t : TE} {tr : TA}
/-- a list, a tuple as either -/
theorem wx_toSeqL (h : WX A E Γ t c fun Γ' V c' => ∃ ps, V = .val (pLst K ps) ∧ κ Γ' (.val (pSeq K ps)) c') : WX A E Γ t c κ := fun F T S σ H Q O R hc k =>
  h F T S σ H Q O R hc fun Γ' V c' ⟨ps, e, q⟩ S' H' v R' l hv => k Γ' _ c' q S' H' v R' l (by subst e; exact .inl hv)
theorem wx_toSeqT (h : WX A E Γ t c fun Γ' V c' => ∃ ps, V = .val (pTup K ps) ∧ κ Γ' (.val (pSeq K ps)) c') : WX A E Γ t c κ := fun F T S σ H Q O R hc k =>
  h F T S σ H Q O R hc fun Γ' V c' ⟨ps, e, q⟩ S' H' v R' l hv => k Γ' _ c' q S' H' v R' l (by subst e; exact .inr hv)
theorem AgsOk.snoc {σ : L2.St} {S : Fz} {H : Hp} {v : V} {g : Ag} : ∀ {vs : List V} {gs : List Ag}, AgsOk σ S H vs gs → g.is σ S H v → AgsOk σ S H (vs ++ [v]) (gs ++ [g])
  | [], [], _, h => ⟨h, trivial⟩
  | [], _ :: _, h, _ => False.elim h
  | _ :: _, [], h, _ => False.elim h
  | _ :: _, _ :: _, h, k => ⟨h.1, AgsOk.snoc h.2 k⟩
end
section
variable {A : Nat → Addr} {K : PySem.W.Frag}
theorem law_imp {f : List Int → Res Bool} {pre : List Ar → Cl → Prop} (hp : ∀ ns, pre [.val (yLst K yInt ns)] ⟨Bool, f ns, fun r => .val (yBl r), fun _ => []⟩) (hl : ∀ ns : List Int, ns.length ≤ 63 → f ns = .ok true) {vs : List V} {H : Hp} {Q : VK} {E : XK}
    (h : ∃ (a : Addr) (ns : List Int), vs = [.ref a] ∧ SqL K H a (ns.map V.int) ∧ ns.length ≤ 63 ∧ ∀ H', Q (.bl true) H') : spM A pre vs H Q E := by
  obtain ⟨a, ns, rfl, hs, hn, q⟩ := h
  have e := hl ns hn
  have key : ∀ S : Fz, LsF K S H a (ns.map V.int) → (∀ b, S b → H b ≠ none) → spM A pre [.ref a] H Q E := fun S h1 h2 => by
    refine ⟨S, _, _, hp ns, ⟨⟨a, _, rfl, h1, of_ints ns, sz (by rw [List.length_map]; omega)⟩, trivial⟩, List.nodup_nil, h2, by show f ns ≠ _; rw [e]; exact fun z => (nomatch z), fun r hr S' H' v _ _ hv => ?_, fun er z => ?_⟩
    · have hr : f ns = .ok r := hr
      rw [e] at hr; cases hr
      have hv : v = .bl true := hv
      rw [hv]; exact q H'
    · have z : f ns = .err er := z
      rw [e] at z; cases z
  rcases hs with hr | hk
  · refine key (fun b => b = a) ⟨.inl hr, .inl ⟨rfl, hr⟩⟩ fun b z => ?_
    subst z
    rcases hr with hr | ⟨o, hr⟩ <;> rw [hr] <;> exact fun z => nomatch z
  · exact key (fun _ => False) ⟨.inr hk, .inr fun H' => .inr hk⟩ fun _ z => z.elim
end
end Mi
namespace Mi
open PySem PySem.Spec PyProof.Rows L2
open Sl (isTup sz szl slt)
open NdefX (startF)
section
variable {F : Fr} {Γ Γ' : Ctx} {S S' : Fz} {σ σ' : L2.St} {H H' : Hp} {d : Addr} {od : Obj} {u : HO}
theorem le_core (h : H d = some u) (e : ∀ w, core w = core u → core (.frz od u) = core w) (hn : ∀ C dx fs, u ≠ .ins C dx fs) (hf : (∀ z w, u ≠ .frz z w) ∧ ∀ xs, u ≠ .tup xs) : Le S H S (upd H d (.frz od u)) := ⟨fun _ h => h, fun a o ha _ => by
  by_cases z : a = d
  · subst z
    rw [h] at ha; cases ha
    exact ⟨_, upd_same, e u rfl⟩
  · exact ⟨o, by rw [upd_ne z]; exact ha, rfl⟩, fun a xs ha => by
  by_cases z : a = d
  · subst z
    rw [h] at ha; cases ha
    exact absurd rfl (hf.2 _)
  · rw [upd_ne z]; exact ha⟩
theorem core_frz {u : HO} (hn : ∀ C dx fs, u ≠ .ins C dx fs) (hf : ∀ z w, u ≠ .frz z w) : core (.frz od u) = core u := by
  cases u with
  | ins C dx fs => exact absurd rfl (hn _ _ _)
  | frz z w => exact absurd rfl (hf _ _)
  | _ => rfl
theorem le_lock (h : H d = some u) (hn : ∀ C dx fs, u ≠ .ins C dx fs) (hf : (∀ z w, u ≠ .frz z w) ∧ ∀ xs, u ≠ .tup xs) : Le S H S (upd H d (.frz od u)) := le_core h (fun w e => (core_frz hn hf.1).trans e.symm) hn hf
theorem le_unlock (h : H d = some (.frz od u)) (hn : ∀ C dx fs, u ≠ .ins C dx fs) (hf : (∀ z w, u ≠ .frz z w) ∧ ∀ xs, u ≠ .tup xs) : Le S H S (upd H d u) := ⟨fun _ h => h, fun a o ha _ => by
  by_cases z : a = d
  · subst z
    rw [h] at ha; cases ha
    exact ⟨_, upd_same, (core_frz hn hf.1).symm⟩
  · exact ⟨o, by rw [upd_ne z]; exact ha, rfl⟩, fun a xs ha => by
  by_cases z : a = d
  · subst z
    rw [h] at ha; cases ha
  · rw [upd_ne z]; exact ha⟩
/-- what is frozen at d is locked: a region -/
theorem Rel.lock (R : Rel F Γ S σ H) (h : H d = some u) (hs : S d) (hn : ∀ C dx fs, u ≠ .ins C dx fs) (hf : (∀ z w, u ≠ .frz z w) ∧ ∀ xs, u ≠ .tup xs) : Rel (F.at S (upd H d (.frz od u)) (Held Γ σ)) Γ S σ (upd H d (.frz od u)) := by
  have l : Le S H S (upd H d (.frz od u)) := le_lock h hn hf
  refine ⟨⟨fun _ _ h _ => h, fun _ h => .inl h, fun _ h => h, fun _ h => h, fun a h => upd_some (R.fr.sd a h)⟩, R.len, fun i P h => ?_, fun i b O e => ?_, R.sep⟩
  · obtain ⟨v, e, hv⟩ := R.val i P h
    exact ⟨v, e, P.up l hv⟩
  · obtain ⟨a, o, e1, e2, e3, e4, e5, e6⟩ := R.own i b O e
    exact ⟨a, o, e1, by rw [upd_ne (fun z => e4 (by rw [z]; exact hs))]; exact e2, O.up l e3, e4, .inl ⟨i, b, O, e, e1⟩, e6⟩
theorem Rel.unlock (R : Rel F Γ S σ H) (h : H d = some u) (hs : S d) (hn : ∀ C dx fs, u ≠ .ins C dx fs) (hf : (∀ z w, u ≠ .frz z w) ∧ ∀ xs, u ≠ .tup xs) (R' : Rel (F.at S (upd H d (.frz od u)) (Held Γ σ)) Γ' S' σ' H') : H' d = some (.frz od u) ∧ Le S' H' S' (upd H' d u) ∧ Rel F Γ' S' σ' (upd H' d u) := by
  have nh : ¬ Held Γ σ d := fun ⟨i, b, O, h1, h2⟩ => by
    obtain ⟨a, o, e1, e2, e3, e4, _⟩ := R.own i b O h1
    rw [h2] at e1; cases e1
    exact e4 hs
  have hd : H' d = some (.frz od u) := R'.fr.kp d _ upd_same nh
  have l : Le S' H' S' (upd H' d u) := le_unlock hd hn hf
  refine ⟨hd, l, ⟨⟨fun a o ha n => ?_, fun a ha => ?_, fun a ha => R'.fr.le a (R.fr.le a ha), fun a ha => upd_some (R'.fr.dm a (upd_some (R.fr.dm a ha))), fun a ha => upd_some (R'.fr.sd a ha)⟩, R'.len, fun i P e => ?_, fun i b O e => ?_, R'.sep⟩⟩
  · have ha' := R.fr.kp a o ha n
    by_cases z : a = d
    · subst z
      rw [h] at ha'; cases ha'
      exact upd_same
    · rw [upd_ne z]
      exact R'.fr.kp a o (by show upd H d _ a = _; rw [upd_ne z]; exact ha') fun w => (R.hI a w).elim n fun w => by rw [w] at ha; cases ha
  · rcases R'.fr.fz a ha with w | w | w
    · exact R.fr.fz a w
    · have w : upd H d (.frz od u) a = none := w
      refine .inr (.inl (R.fr.fresh ?_))
      by_cases z : a = d
      · subst z; rw [upd_same] at w; cases w
      · rw [upd_ne z] at w; exact w
    · exact (R.hI a w).elim (fun z => .inr (.inr z)) fun z => .inr (.inl z)
  · obtain ⟨v, e1, e2⟩ := R'.val i P e
    exact ⟨v, e1, P.up l e2⟩
  · obtain ⟨a, o, e1, e2, e3, e4, e5, e6⟩ := R'.own i b O e
    have z : a ≠ d := fun z => e4 (by rw [z]; exact R'.fr.le d hs)
    refine ⟨a, o, e1, by rw [upd_ne z]; exact e2, O.up l e3, e4, ?_, e6⟩
    rcases e5 with w | w
    · exact R.hI a w
    · have w : upd H d (.frz od u) a = none := w
      rw [upd_ne z] at w
      exact .inr (R.fr.fresh w)
end
section
variable {ρ : Type} {A : Nat → Addr} {E : L2.St → XK} {K : PySem.W.Frag} {Γ : Ctx} {c : Res ρ} {Δ : Dl ρ} {g : TG} {tb : TS} {i : Nat} {α : Type} {t : α → Pv}
variable {κ' : Type} {tk : κ' → Pv} [KV : KeyV κ' tk]
theorem is_unlock {F : Fr} {Γ Γ' : Ctx} {S S' : Fz} {σ σ' : L2.St} {H H' : Hp} {d : Addr} {od : Obj} {u : HO} {V : Vo} {v : L2.V} (R : Rel F Γ S σ H) (h : H d = some u) (hs : S d) (hn : ∀ C dx fs, u ≠ .ins C dx fs) (hf : (∀ z w, u ≠ .frz z w) ∧ ∀ xs, u ≠ .tup xs) (R' : Rel (F.at S (upd H d (.frz od u)) (Held Γ σ)) Γ' S' σ' H') (hv : V.is (F.at S (upd H d (.frz od u)) (Held Γ σ)) Γ' σ' S' H' v) : V.is F Γ' σ' S' (upd H' d u) v := by
  obtain ⟨q1, q2, q3⟩ := R.unlock h hs hn hf R'
  cases V with
  | val P => exact P.up q2 hv
  | own O =>
    obtain ⟨a, o, rfl, e2, e3, e4, e5, e6⟩ := hv
    have z : a ≠ d := fun z => e4 (by rw [z]; exact R'.fr.le d hs)
    refine ⟨a, o, rfl, by rw [upd_ne z]; exact e2, O.up q2 e3, e4, ?_, e6⟩
    rcases e5 with w | w
    · exact R.hI a w
    · have w : upd H d (.frz od u) a = none := w
      rw [upd_ne z] at w
      exact .inr (R.fr.fresh w)
theorem is_leave {F : Fr} {Γ Γ' : Ctx} {S S' : Fz} {σ σ' : L2.St} {H H' : Hp} {V : Vo} {v : L2.V} (R : Rel F Γ S σ H) (hv : V.is (F.at S H (Held Γ σ)) Γ' σ' S' H' v) : V.is F Γ' σ' S' H' v := by
  cases V with
  | val P => exact hv
  | own O =>
    obtain ⟨a, o, rfl, e2, e3, e4, e5, e6⟩ := hv
    exact ⟨a, o, rfl, e2, e3, e4, e5.elim (R.hI a) fun w => .inr (R.fr.fresh w), e6⟩
end
/-! ### a new object handed to a def that changes it -/
section
variable {ρ : Type} {A : Nat → Addr} {E : L2.St → XK} {E1 : XK} {K : PySem.W.Frag} {Γ : Ctx} {c : Res ρ} {κ : Ctx → Vo → Res ρ → Prop} {pre : List Ar → Cl → Prop} {te : TE} {tr : TA}
theorem ars_vals {S : Fz} {H : Hp} {σ : L2.St} : ∀ {vs : List V} {ps : List Pv}, AgsOk σ S H vs (vals ps) → ArsOk S H vs (ps.map Ar.val) ∧ ioAd vs (ps.map Ar.val) = []
  | [], [], _ => ⟨trivial, rfl⟩
  | [], _ :: _, h => False.elim h
  | _ :: _, [], h => False.elim h
  | v :: vs, P :: ps, h => by
    obtain ⟨q1, q2⟩ := ars_vals (vs := vs) (ps := ps) h.2
    exact ⟨⟨h.1, q1⟩, by cases v <;> exact q2⟩
theorem wx_callT (h : WX A E Γ te c fun Γ1 V c1 => ∃ O, V = .own O ∧ WA A ET Γ1 tr c1 fun Γ2 gs c2 => Γ2 = Γ1 ∧ ∃ (ps : List Pv) (d : Cl) (k : d.β → Res ρ), gs = vals ps ∧ pre (.io O :: ps.map Ar.val) d ∧ c2 = d.m.bind k ∧ (∀ e, d.m ≠ .err e) ∧ ∀ r, d.m = .ok r → κ Γ1 (d.V r) (k r)) : WX A E Γ (tCall (spM A pre) [] E1 (tCons te tr)) c κ := fun F T S σ H Q O R hc kk => by
  refine h F T S σ H _ O R hc fun Γ1 V c1 h1 S1 H1 x R1 l1 p1 hc1 => ?_
  obtain ⟨Ow1, rfl, h1⟩ := h1
  obtain ⟨a, o, rfl, ha, hw, ns, hI, nh⟩ := p1
  refine h1 (F.at S1 H1 (Held Γ1 σ)) T S1 σ H1 _ ⟨O.nb, fun e z S' H' f => erT A⟩ R1.enter hc1 fun Γ2 gs c2 h2 S2 H2 ws R2 l2 p2 hc2 => ?_
  obtain ⟨rfl, ps, d, k, rfl, hp, rfl, he, hk⟩ := h2
  have ha2 : H2 a = some o := R2.fr.kp a o ha nh
  have ns2 : ¬ S2 a := fun z => by
    rcases R2.fr.fz a z with w | w | w
    · exact ns w
    · have w : H1 a = none := w
      rw [ha] at w; cases w
    · exact nh w
  have R3 : Rel F Γ2 S2 σ H2 := R1.leave R2
  have nh3 : ¬ Held Γ2 σ a := nh
  obtain ⟨q1, q2⟩ := ars_vals p2
  have eio : ioAd (.ref a :: ws) (.io Ow1 :: ps.map Ar.val) = [a] := by show a :: ioAd ws (ps.map Ar.val) = [a]; rw [q2]
  show spM A pre ((.ref a :: ws) ++ []) H2 Q E1
  rw [List.append_nil]
  refine ⟨S2, _, d, hp, ⟨⟨a, o, rfl, ha2, Ow1.up l2 hw, ns2⟩, q1⟩, by rw [eio]; simp, R3.fr.sd, fun z => by rw [z] at hc2; exact O.nb hc2, fun r hr S' H' v f ho hv => ?_, fun e z => absurd z (he e)⟩
  rw [eio] at f
  have fk : ∀ b o, H2 b = some o → b ≠ a → H' b = some o := fun b o h n => f.kp b o h fun z => n (List.mem_singleton.mp z)
  have l3 : Le S2 H2 S' H' := .ex f.le fun b u h w => fk b u h fun z => by
    subst z
    rw [ha2] at h; cases h
    rcases w with w | w
    · exact ns2 w
    · rw [Ow1.nt (Ow1.up l2 hw)] at w; cases w
  have fz' : ∀ b, S' b → S2 b ∨ H2 b = none ∨ b = a := fun b z => (f.fz b z).imp id fun z => z.imp id fun z => List.mem_singleton.mp z
  have R4 : Rel F Γ2 S' σ H' := by
    refine ⟨R3.fr.comp (I := fun b => b ∈ [a]) ⟨f.kp, f.fz, f.le, f.dm, f.sd⟩ fun b z => by rw [List.mem_singleton.mp z]; exact hI, R3.len, fun i P e => ?_, fun i b O' e => ?_, R3.sep⟩
    · obtain ⟨w, e1, e2⟩ := R3.val i P e
      exact ⟨w, e1, P.up l3 e2⟩
    · obtain ⟨b', u, e1, e2, e3, e4, e5, e6⟩ := R3.own i b O' e
      have n : b' ≠ a := fun z => nh3 ⟨i, b, O', e, by rw [e1, z]⟩
      exact ⟨b', u, e1, fk b' u e2 n, O'.up l3 e3, fun z => (fz' b' z).elim e4 fun z => z.elim (fun z => by rw [e2] at z; cases z) n, e5, e6⟩
  refine kk _ _ _ (hk r hr) S' H' v R4 ((l1.trans l2).trans l3) ?_ (by rw [hr] at hc2; exact hc2)
  cases ev : d.V r with
  | val P => rw [ev] at hv; exact hv
  | own O' =>
    rw [ev] at hv
    obtain ⟨b, u, rfl, w2, w3, w4, w5⟩ := hv
    refine ⟨b, u, rfl, w2, w3, w4, .inr (R3.fr.fresh w5), fun z => z.dom R3 w5⟩
end
/-! ### return super().m(..) and .. -/
/-! ### try: x = f(..) except C as e -/
def pExc (a : Addr) : Pv := ⟨fun _ _ v => v = .ref a, fun _ h => h⟩
def pRef (a : Addr) : Pv := ⟨fun _ _ v => v = .ref a, fun _ h => h⟩
section
variable {ρ : Type} {A : Nat → Addr} {E : L2.St → XK} {K : PySem.W.Frag} {Γ : Ctx} {c : Res ρ} {κ : Ctx → Vo → Res ρ → Prop} {Δ : Dl ρ} {α : Type} {te : Ends → TE} {i j n : Nat} {c0 : Value} {ts : Addr → Value → Option Addr → TS} {Wout : L2.WX}
theorem Rel.caught {F : Fr} {S S' : Fz} {σ : L2.St} {H H' : Hp} (R : Rel F Γ S σ H) (f : FrOk (F.at S H (Held Γ σ)) S' H') : Le S H S' H' ∧ Rel F (valsC Γ) S' σ H' := by
  have l : Le S H S' H' := .ex f.le fun a o h k => f.kp a o h fun ⟨i, b, O, h1, h2⟩ => by
    obtain ⟨a', o', e1, e2, e3, e4, _⟩ := R.own i b O h1
    rw [h2] at e1; cases e1
    rw [h] at e2; cases e2
    rcases k with k | k
    · exact e4 k
    · rw [O.nt e3] at k; cases k
  refine ⟨l, ⟨R.fr.comp f R.hI, R.len.trans (valsC_len Γ).symm, fun i P h => ?_, fun i b O h => (valsC_at h).elim (fun z => nomatch z) fun z => absurd rfl (z.2 b O), fun i j b b' O O' a h _ => (valsC_at h).elim (fun z => nomatch z) fun z => absurd rfl (z.2 b O)⟩⟩
  rcases valsC_at h with z | ⟨h, _⟩
  · cases z
  · obtain ⟨v, e, hv⟩ := R.val i P h
    exact ⟨v, e, P.up l hv⟩
theorem ws_try (t : α → Pv) {m : Res α} {k : α → Res ρ} {h : Res ρ} (hc : c = ptry m k n h) (hx : ∀ D, WX A (WE (wAs K c0 i ts Wout D)) Γ (te D) m fun Γ' V c' => Γ' = Γ ∧ ∃ x, V = .val (t x) ∧ c' = .ok x) (hj : j < Γ.length) (hi : i < Γ.length) (hk : ∀ x, Δ.nx (Γ.set j (.val (t x))) (k x)) (hex : PySem.W.exmOne K (.ref (A n)) c0 = some true)
    (hh : ∀ a, WS A E ((valsC Γ).set i (.val (pExc a))) (ts a (.ref (A n)) none) h { Δ with nx := fun Γ' c' => Δ.nx (Γ'.set i .any) c' , bk := fun _ _ => False, ct := fun _ _ => False }) : WS A E Γ (fun D σ H => tAsg (te D) (gName j) D σ H) c Δ := fun F T S σ H D O R hT d => by
  subst hc
  refine hx D (F.at S H (Held Γ σ)) (fun m => T (ptry m k n h)) S σ H _ ⟨(O σ).nb, fun e he S' H' f => ?_⟩ R.enter hT fun Γ' V c' q S' H' v R' l hv hc' => ?_
  · have he2 : T (if e = ⟨n, .no⟩ then h else .bad) := he
    clear he
    by_cases z : e = ⟨n, .no⟩
    · rw [if_pos z] at he2
      subst z
      obtain ⟨l, R1⟩ := R.caught f
      refine ⟨true, hex, fun _ a ha => ?_, fun z => Bool.noConfusion z⟩
      have R2 := R1.setv (P := pExc a) (v := .ref a) (i := i) rfl (by rw [valsC_len]; exact hi)
      refine hh a F T S' _ H' _ O R2 he2 ⟨fun Γ' c' q S2 σ2 H2 R3 l3 hc3 => ?_, fun Γ' V c' q S2 σ2 H2 v R3 l3 hv hc3 => ?_, fun _ _ z => z.elim, fun _ _ z => z.elim⟩
      · exact d.nx _ _ q S2 _ H2 (R3.wipe1 none (.inr (.inr trivial))) (l.trans l3) hc3
      · exact d.rt _ _ _ q S2 σ2 H2 v R3 (l.trans l3) hv hc3
    · rw [if_neg z] at he2; exact absurd he2 (O σ).nb
  · obtain ⟨rfl, x, rfl, rfl⟩ := q
    exact d.nx _ _ (hk x) S' _ H' ((R.leave R').setv hv hj) l hc'
theorem rc_is0 {a : Addr} {C D : Addr} {b : Bool} (hb : PySem.W.kitOne K (.ref C) (.ref D) = some b) (h : κ Γ (.val (yBl b)) c) : RC A E (fun _ => Sl.rIs0 K C a (.ref C) none) [.val (pExc a), .val (pRef D)] Γ c κ := fun F T S σ H vs Q O R hc hg k => by
  obtain ⟨v, w, rfl, hv, hw⟩ := ag2 hg
  cases hv; cases hw
  exact ⟨_, _, b, rfl, rfl, rfl, .own D, hb, k _ _ _ h S H _ R Le.refl rfl hc⟩
/-- what may be None, where it is not -/
def punwrap {α : Type} : Option α → Res α
  | some x => .ok x
  | none => .bad
theorem wx_unw {te : TE} (t : α → Pv) (h : WX A E Γ te c fun Γ' V c' => ∃ x k, V = .val (yOpt t x) ∧ c' = (punwrap x).bind k ∧ ∀ y, κ Γ' (.val (t y)) (k y)) : WX A E Γ te c κ := fun F T S σ H Q O R hc kk =>
  h F T S σ H Q O R hc fun Γ' V c' ⟨x, k, e, e2, q⟩ S' H' v R' l hv hc' => by
    subst e; subst e2
    cases x with
    | none => exact absurd hc' O.nb
    | some y => exact kk Γ' _ _ (q y) S' H' v R' l hv hc'
/-- isinstance of what may be None -/
theorem rc_isiO {T1 T2 : String} {t : α → Pv} [I : HasTy K t T1] {x : Option α} (hb : PySem.W.kitOne K (.type T1) (.type T2) = some true) (hn : PySem.W.kitOne K (.type "NoneType") (.type T2) = some false) (h : κ Γ (.val (yBl x.isSome)) c) : RC A E (fun _ => rIsi K) [.val (yOpt t x), .val (yCls T2)] Γ c κ := fun F T S σ H vs Q' O R hc hg kk => by
  obtain ⟨v, w, rfl, hv, hw⟩ := ag2 hg
  cases hw
  cases x with
  | none =>
    have hv : v = .non := hv
    exact ⟨v, _, _, _, false, rfl, .ty T2, hv ▸ .base .non, hn, kk _ _ _ h S H _ R Le.refl rfl hc⟩
  | some x => exact ⟨v, _, _, _, true, rfl, .ty T2, I.ty x S H v hv, hb, kk _ _ _ h S H _ R Le.refl rfl hc⟩
instance : Scal (Option Int) (yOpt yInt) := ⟨fun x => match x with | none => .non | some i => .int i, fun x S H v h => by cases x <;> exact h, fun x y h => by cases x <;> cases y <;> simp_all, fun x y => by cases x <;> cases y <;> rfl⟩
instance : Scal (Option Str) (yOpt yStr) := ⟨fun x => match x with | none => .non | some i => .str i, fun x S H v h => by cases x <;> exact h, fun x y h => by cases x <;> cases y <;> simp_all, fun x y => by cases x <;> cases y <;> rfl⟩
end
end Mi
namespace Mi
open PySem PySem.Spec PyProof.Rows L2
open Sl (slt Asc)
/-! ### what a plain function returns -/
def Ret {α : Type} (m : Res α) (P : α → Prop) : Prop := ∃ x, m = .ok x ∧ P x
section
variable {α β σ ρ τ : Type} {m : Res α} {P : α → Prop} {Q : β → Prop} {k : α → Res β}
theorem ret_ok {x : α} (h : P x) : Ret (.ok x) P := ⟨x, rfl, h⟩
theorem ret_bind (h : Ret m P) (h2 : ∀ x, P x → Ret (k x) Q) : Ret (m.bind k) Q := by
  obtain ⟨x, rfl, hx⟩ := h
  exact h2 x hx
theorem ret_eq {x : α} (h : m = .ok x) (h2 : Ret (k x) Q) : Ret (m.bind k) Q := by subst h; exact h2
theorem ret_noerr (h : Ret m P) : Ret m.noerr P := by
  obtain ⟨x, rfl, hx⟩ := h
  exact ⟨x, rfl, hx⟩
theorem ret_lt {x : α} {k : α → Res β} (h : Ret (k x) Q) : Ret (lt x k) Q := h
theorem ret_ltE {x : α} {k : α → Res β} (h : ∀ v, v = x → Ret (k v) Q) : Ret (lt x k) Q := h x rfl
theorem ret_mono {P' : α → Prop} (h : Ret m P) (h2 : ∀ x, P x → P' x) : Ret m P' := by
  obtain ⟨x, e, hx⟩ := h
  exact ⟨x, e, h2 x hx⟩
theorem ret_if {c : Prop} [Decidable c] {a b : Res α} (h1 : c → Ret a P) (h2 : ¬ c → Ret b P) : Ret (if c then a else b) P := by
  by_cases h : c
  · rw [if_pos h]; exact h1 h
  · rw [if_neg h]; exact h2 h
theorem ret_to {x : α} (h : Ret m (· = x)) : m = .ok x := by
  obtain ⟨y, e, rfl⟩ := h
  exact e
theorem ret_fold {f : σ → β → Res σ} (I : List β → σ → Prop) {xs : List β} {s : σ} (h0 : I [] s) (hs : ∀ pre x post s, xs = pre ++ x :: post → I pre s → Ret (f s x) (I (pre ++ [x]))) : Ret (pfold f s xs) (I xs) := by
  suffices ∀ pre post s, xs = pre ++ post → I pre s → Ret (pfold f s post) (I xs) from this [] xs s rfl h0
  intro pre post
  induction post generalizing pre with
  | nil => intro s e hi; rw [e, List.append_nil]; exact ⟨s, rfl, hi⟩
  | cons x post ih =>
    intro s e hi
    refine ret_bind (hs pre x post s e hi) fun s' hi' => ?_
    exact ih (pre ++ [x]) s' (by rw [e]; simp) hi'
def ForR (I : σ → Prop) (R : τ → Prop) : Fl σ τ → Prop
  | .nx s => I s
  | .br s => I s
  | .rt r => R r
theorem ret_for {f : σ → β → Res (Fl σ τ)} (I : List β → σ → Prop) (J : σ → Prop) (R : τ → Prop) {xs : List β} {s : σ} (h0 : I [] s) (hJ : ∀ s, I xs s → J s)
    (hs : ∀ pre x post s, xs = pre ++ x :: post → I pre s → Ret (f s x) fun r => match r with | .nx s' => I (pre ++ [x]) s' | .br s' => J s' | .rt r => R r) : Ret (pfor f s xs) (ForR J R) := by
  suffices ∀ pre post s, xs = pre ++ post → I pre s → Ret (pfor f s post) (ForR J R) from this [] xs s rfl h0
  intro pre post
  induction post generalizing pre with
  | nil => intro s e hi; exact ⟨.nx s, rfl, hJ s (by rw [e, List.append_nil]; exact hi)⟩
  | cons x post ih =>
    intro s e hi
    refine ret_bind (hs pre x post s e hi) fun r hr => ?_
    cases r with
    | nx s' => exact ih (pre ++ [x]) s' (by rw [e]; simp) hr
    | br s' => exact ⟨.nx s', rfl, hr⟩
    | rt r => exact ⟨.rt r, rfl, hr⟩
theorem ret_thn {m : Res (Fl σ τ)} {k : σ → Res ρ} {j : τ → Res ρ} {I : σ → Prop} {R : τ → Prop} {Q : ρ → Prop} (h : Ret m (ForR I R)) (h1 : ∀ s, I s → Ret (k s) Q) (h2 : ∀ r, R r → Ret (j r) Q) : Ret (m.thn k j) Q := by
  obtain ⟨x, rfl, hx⟩ := h
  cases x with
  | nx s => exact h1 s hx
  | br s => exact h1 s hx
  | rt r => exact h2 r hx
theorem pml_ok {f : α → Res (Option β)} {g : α → Option β} : ∀ {xs : List α}, (∀ x ∈ xs, f x = .ok (g x)) → pml f xs = .ok (xs.filterMap g)
  | [], _ => rfl
  | x :: xs, h => by
    rw [pml, h x (List.mem_cons_self ..), bind_ok, pml_ok fun y hy => h y (List.mem_cons_of_mem _ hy), bind_ok, List.filterMap_cons]
    cases g x <;> rfl
theorem pml_map {f : α → Res (Option β)} {g : α → β} {xs : List α} (h : ∀ x ∈ xs, f x = .ok (some (g x))) : pml f xs = .ok (xs.map g) := by
  rw [pml_ok (g := fun x => some (g x)) h]
  exact congrArg Res.ok (List.filterMap_eq_map (f := g) ▸ rfl)
theorem pml_filter {f : α → Res (Option α)} {p : α → Bool} {xs : List α} (h : ∀ x ∈ xs, f x = .ok (if p x then some x else none)) : pml f xs = .ok (xs.filter p) := by
  rw [pml_ok (g := fun x => if p x then some x else none) h]
  congr 1
  induction xs with
  | nil => rfl
  | cons x xs ih =>
    rw [List.filterMap_cons, List.filter_cons]
    have := ih fun y hy => h y (List.mem_cons_of_mem _ hy)
    cases e : p x <;> simp [this]
theorem guard_ok {p : Prop} [Decidable p] (h : p) : guard p = .ok () := if_pos h
theorem psnoc_ok {xs : List α} {y : α} (h : xs.length < 100000) : psnoc xs y = .ok (xs ++ [y]) := if_pos h
theorem pcat_ok {xs ys : List α} (h : xs.length + ys.length ≤ 100000) : pcat xs ys = .ok (xs ++ ys) := if_pos h
theorem pmod_ok {x y : Int} (h : 0 < y) : pmod x y = .ok (x % y) := if_pos h
theorem pdiv_ok {x y : Int} (h : 0 < y) (h2 : y < 1073741824) : pdiv x y = .ok (x / y) := if_pos ⟨h, h2⟩
theorem pmul_l {x y : Int} (h : -(2 ^ 64) < x) (h2 : x < 2 ^ 64) : pmul x y = .ok (x * y) := if_pos (.inl ⟨h, h2⟩)
theorem pidx_nat {xs : List α} {n : Nat} {x : α} (h : xs[n]? = some x) : pidx xs (n : Int) = .ok x := by
  unfold pidx; rw [atI_nat h]
theorem pidx_get {xs : List α} {i : Int} (h0 : 0 ≤ i) (h1 : i < xs.length) : Ret (pidx xs i) fun x => x ∈ xs ∧ xs[i.toNat]? = some x := by
  obtain ⟨n, rfl⟩ := Int.eq_ofNat_of_zero_le h0
  have h : n < xs.length := by omega
  exact ⟨xs[n], pidx_nat (by simp [h]), List.getElem_mem h, by simp [h]⟩
end
/-! dicts -/
section
variable {κ α : Type} [DecidableEq κ] {d : List (κ × α)} {k k' : κ} {x y : α}
theorem dlook_nil : dlook ([] : List (κ × α)) k = none := rfl
theorem dlook_cons {p : κ × α} : dlook (p :: d) k = if p.1 = k then some p.2 else dlook d k := by
  unfold dlook
  rw [List.find?_cons]
  by_cases h : p.1 = k <;> simp [h]
theorem dlook_put : dlook (dput d k x) k' = if k' = k then some x else dlook d k' := by
  unfold dput
  by_cases h : (d.any fun kv => decide (kv.1 = k)) = true
  · rw [if_pos h]
    induction d with
    | nil => simp at h
    | cons p d ih =>
      rw [List.map_cons, dlook_cons, dlook_cons]
      by_cases e : p.1 = k
      · simp only [e, if_true]
        by_cases e2 : k' = k
        · subst e2; simp
        · rw [if_neg (fun z => e2 z.symm), if_neg e2, if_neg (fun z => e2 z.symm)]
          by_cases h2 : (d.any fun kv => decide (kv.1 = k)) = true
          · rw [ih h2, if_neg e2]
          · have : (d.map fun kv => if kv.1 = k then (kv.1, x) else kv) = d := by
              clear ih h
              induction d with
              | nil => rfl
              | cons q d ih2 =>
                have e3 : q.1 ≠ k := fun z => h2 (by rw [List.any_cons, decide_eq_true z, Bool.true_or])
                rw [List.map_cons, if_neg e3, ih2 fun z => h2 (by rw [List.any_cons, z, Bool.or_true])]
            rw [this]
      · simp only [if_neg e]
        have h2 : (d.any fun kv => decide (kv.1 = k)) = true := by simpa [List.any_cons, e] using h
        rw [ih h2]
        by_cases e2 : p.1 = k'
        · have : k' ≠ k := fun z => e (e2.trans z)
          simp [e2, this]
        · simp [e2]
  · rw [if_neg h]
    induction d with
    | nil =>
      rw [List.nil_append, dlook_cons, dlook_nil]
      by_cases e : k' = k
      · rw [if_pos e.symm, if_pos e]
      · rw [if_neg (fun z => e z.symm), if_neg e]
    | cons p d ih =>
      have h2 : ¬ (d.any fun kv => decide (kv.1 = k)) = true := fun z => h (by rw [List.any_cons, z, Bool.or_true])
      have e : p.1 ≠ k := fun z => h (by rw [List.any_cons, decide_eq_true z, Bool.true_or])
      rw [List.cons_append, dlook_cons, dlook_cons, ih h2]
      by_cases e2 : p.1 = k'
      · have : k' ≠ k := fun z => e (e2.trans z)
        simp [e2, this]
      · simp [e2]
theorem pdget_ok (h : dlook d k = some x) : pdget d k = .ok x := by unfold pdget; rw [h]
theorem pdput_ok (h : d.length < 100000) : pdput d k x = .ok (dput d k x) := if_pos h
theorem mem_dkeys_put : k' ∈ dkeys (dput d k x) ↔ k' = k ∨ k' ∈ dkeys d := by
  unfold dput dkeys
  split
  · next h =>
    have : (d.map fun kv => if kv.1 = k then (kv.1, x) else kv).map (·.1) = d.map (·.1) := by
      rw [List.map_map]
      refine List.map_congr_left fun kv _ => ?_
      show (if kv.1 = k then (kv.1, x) else kv).1 = kv.1
      split <;> rfl
    rw [this]
    obtain ⟨kv, h1, h2⟩ := List.any_eq_true.mp h
    refine ⟨.inr, fun z => z.elim (fun z => ?_) id⟩
    subst z
    exact List.mem_map.mpr ⟨kv, h1, of_decide_eq_true h2⟩
  · rw [List.map_append, List.mem_append]
    simp [or_comm]
theorem dkeys_put_nodup (h : (dkeys d).Nodup) : (dkeys (dput d k x)).Nodup := by
  unfold dput
  split
  · have : dkeys (d.map fun kv => if kv.1 = k then (kv.1, x) else kv) = dkeys d := by
      unfold dkeys
      rw [List.map_map]
      refine List.map_congr_left fun kv _ => ?_
      show (if kv.1 = k then (kv.1, x) else kv).1 = kv.1
      split <;> rfl
    rw [this]; exact h
  · next hn =>
    unfold dkeys
    rw [List.map_append]
    refine List.nodup_append.mpr ⟨h, by simp, fun a ha b hb e => ?_⟩
    have hb : b = k := by simpa using hb
    rw [e, hb] at ha
    obtain ⟨kv, h1, h2⟩ := List.mem_map.mp ha
    exact hn (List.any_eq_true.mpr ⟨kv, h1, decide_eq_true h2⟩)
theorem dlook_mem (h : k ∈ dkeys d) : ∃ x, dlook d k = some x := by
  induction d with
  | nil => simp [dkeys] at h
  | cons p d ih =>
    rw [dlook_cons]
    by_cases e : p.1 = k
    · exact ⟨p.2, if_pos e⟩
    · rw [if_neg e]
      refine ih ?_
      simp only [dkeys, List.map_cons, List.mem_cons] at h
      exact h.resolve_left fun z => e z.symm
end
/-! sorted texts -/
end Mi
namespace Mi
open PySem PySem.Spec PyProof.Rows L2
open Sl (isTup sz szl slt)
/-! ### texts -/
def pfit {α : Type} (xs : List α) : Res (List α) := if xs.length ≤ 100000 then .ok xs else .bad
section
variable {ρ : Type} {A : Nat → Addr} {E : L2.St → XK} {K : PySem.W.Frag} {Γ : Ctx} {c : Res ρ} {κ : Ctx → Vo → Res ρ → Prop} {κa : Ctx → List Ag → Res ρ → Prop} {P P' : Pv} {ps qs : List Pv} {α β : Type} {t : α → Pv} {te tx ty td : TE} {tr : TA} {i : Nat}
/-! ### starred parts of a display -/
theorem ags_app {σ : L2.St} {S : Fz} {H : Hp} : ∀ {vs ws : List V} {ps : List Pv} {gs : List Ag}, PsOk S H vs ps → AgsOk σ S H ws gs → AgsOk σ S H (vs ++ ws) (vals ps ++ gs)
  | [], _, [], _, _, k => k
  | [], _, _ :: _, _, h, _ => False.elim h
  | _ :: _, _, [], _, h, _ => False.elim h
  | _ :: _, _, _ :: _, _, h, k => ⟨h.1, ags_app h.2 k⟩
theorem wa_star (p : List Pv → Pv) [Q : SeqK K p] (h : WX A E Γ te c fun Γ1 V c1 => ∃ ps, V = .val (p ps) ∧ WA A E Γ1 tr c1 fun Γ2 gs c2 => κa Γ2 (vals ps ++ gs) c2) : WA A E Γ (StX.tStar K te tr) c κa := fun F T S σ H Q' O R hc k => by
  refine h F T S σ H _ O R hc fun Γ1 V c1 h1 S1 H1 x R1 l1 p1 hc1 => ?_
  obtain ⟨ps, rfl, h1⟩ := h1
  obtain ⟨a, vs, rfl, hs, hv, _⟩ := Q.sq _ _ _ _ p1
  refine ⟨a, vs, rfl, hs.symm, h1 F T S1 σ H1 _ O R1 hc1 fun Γ2 gs c2 h2 S2 H2 ys R2 l2 p2 hc2 => k _ _ _ h2 S2 H2 _ R2 (l1.trans l2) ?_ hc2⟩
  exact ags_app (hv.up l2) p2
theorem wx_tupG (t : α → Pv) (h : WA A E Γ tr c fun Γ1 gs c1 => ∃ xs k, gs = vals (xs.map t) ∧ c1 = (pfit xs).bind k ∧ ∀ ys, κ Γ1 (.val (yTup K t ys)) (k ys)) : WX A E Γ (tTup tr) c κ := fun F T S σ H Q O R hc kk => by
  refine h F T S σ H _ O R hc fun Γ1 gs c1 h1 S1 H1 xs R1 l1 p1 hc1 => ?_
  obtain ⟨ys, k, rfl, rfl, h1⟩ := h1
  unfold pfit at hc1
  by_cases z : ys.length ≤ 100000
  · rw [if_pos z] at hc1
    have p1 := p1.pvs
    have hz : xs.length ≤ sizeLine := sz (by rw [p1.length, List.length_map]; exact z)
    exact ⟨hz, fun p hp => kk _ _ _ (h1 _) S1 _ _ (R1.new hp) (l1.trans (le_new hp)) ⟨p, xs, rfl, .inl (.inl upd_same), p1.up (le_new hp), hz⟩ hc1⟩
  · rw [if_neg z] at hc1; exact absurd hc1 O.nb
/-! ### len of a tuple whose size the kind tells: by rc_lenSq -/
/-! ### setdefault -/
end
end Mi
namespace Sl
open PySem PySem.Spec PyProof.Rows L2
/-! ### sorted(xs, key=len) of a list of tuples -/
/-- tuples and their lengths -/
inductive TLn (K : PySem.W.Frag) (H : Hp) : List V → List Nat → Prop
  | nil : TLn K H [] []
  | cons {a : Addr} {ys vs : List V} {ns : List Nat} : SqT K H a ys → TLn K H vs ns → TLn K H (.ref a :: vs) (ys.length :: ns)
theorem TLn.len {K : PySem.W.Frag} {H : Hp} : ∀ {vs : List V} {ns : List Nat}, TLn K H vs ns → vs.length = ns.length
  | _, _, .nil => rfl
  | _, _, .cons _ h => congrArg Nat.succ h.len
end Sl
namespace Sl
open PySem PySem.Spec PyProof.Rows L2
/-! ### sorted(d.items()), the keys texts, the values ints -/
section
variable {X : Cx}
/-- u is a tuple (text, int) made at n or later -/
def PairFrom (h : Heap) (n : Nat) (u : Value) (q : Str × Int) : Prop :=
  ∃ b t t', u = .ref b ∧ n ≤ b ∧ h.get? b = some { cls := .type "tuple", data := .seq #[Value.str q.1 t, Value.int q.2 t'] }
theorem PairFrom.one {h : Heap} {n : Nat} {u : Value} {q q' : Str × Int} (x : PairFrom h n u q) (y : PairFrom h n u q') : q = q' := by
  obtain ⟨b, t, t', rfl, -, e⟩ := x
  obtain ⟨b', _, _, e', -, e2⟩ := y
  cases e'
  rw [e] at e2
  injection e2 with e2
  injection e2 with _ _ e2
  injection e2 with e2
  simp only [Array.mk.injEq, List.cons.injEq, Value.str.injEq, Value.int.injEq] at e2
  exact Prod.ext e2.1.1 e2.2.1.1
end
end Sl
namespace Sl
open PySem PySem.Spec PyProof.Rows L2
/-! ### sorted of whatever is collected into a list -/
mutual
theorem reads_lt {h : Heap} : ∀ {v : Value} {d : PyData} {as : List Addr}, Reads h v d as → ∀ b ∈ as, b < h.objs.size
  | _, _, _, .none, _, hb => nomatch hb
  | _, _, _, .bool _, _, hb => nomatch hb
  | _, _, _, .int _ _, _, hb => nomatch hb
  | _, _, _, .str _ _, _, hb => nomatch hb
  | _, _, _, .list h1 _ _ h4, b, hb => (List.mem_cons.mp hb).elim (fun e => e ▸ Heap.lt_size h1) fun hb => readsAll_lt h4 b hb
  | _, _, _, .tuple _ _ _ h4, b, hb => readsAll_lt h4 b hb
  | _, _, _, .dict h1 _ _ h4 h5, b, hb => by
    rcases List.mem_append.mp hb with hb | hb
    · exact (List.mem_cons.mp hb).elim (fun e => e ▸ Heap.lt_size h1) fun hb => readsAll_lt h4 b hb
    · exact readsAll_lt h5 b hb
theorem readsAll_lt {h : Heap} : ∀ {vs : List Value} {ds : List PyData} {as : List Addr}, ReadsAll h vs ds as → ∀ b ∈ as, b < h.objs.size
  | _, _, _, .nil, _, hb => nomatch hb
  | _, _, _, .cons h1 h2, b, hb => (List.mem_append.mp hb).elim (reads_lt h1 b) (readsAll_lt h2 b)
end
theorem coll_seq {prog : Program} {w : World} {A : Around} {E : Value → Shared → Prop} {s : Shared} {Q : List Value → Shared → Prop} {r : Addr} {ty : String} {ob : Obj} {its : Array Value} {k : Nat} (hty : ty = "list" ∨ ty = "tuple")
    (e1 : s.heap.get? r = some ob) (e2 : ob.cls = .type ty) (e3 : ob.data = .seq its k) (hz : its.size ≤ sizeLine)
    (q : ∀ h', (∀ b o, s.heap.get? b = some o → h'.get? b = some o) → s.heap.objs.size ≤ h'.objs.size → Q its.toList { s with heap := h' }) : wpAny (model prog w) A (collect (.ref r)) Q E s := by
  let g := (s.heap.push { cls := .type "list", data := .seq ([] : List Value).toArray }).update s.heap.objs.size (Obj.mapSeq (· ++ its))
  have n0 : (s.heap.push { cls := .type "list", data := .seq ([] : List Value).toArray }).get? s.heap.objs.size = some { cls := .type "list", data := .seq #[] 0 } := Heap.get?_push_size _ rfl
  have n1 := Heap.get?_update_self (Obj.mapSeq (· ++ its)) n0 rfl
  have done : wpAny (model prog w) A (match Value.ref s.heap.objs.size with | Value.ref a => (do match (← load a).data with | Data.seq xs _ => pure xs.toList | _ => unsupported "internal:collect") | _ => unsupported "internal:collect") Q E { s with heap := g } := by
    show wpAny _ A (load s.heap.objs.size >>= _) _ _ _
    refine wpAny_bind (wpAny_load n1 (wpAny_pure ?_))
    show Q ((#[] : Array Value) ++ its).toList _
    rw [show ((#[] : Array Value) ++ its).toList = its.toList by simp]
    refine q g (fun b o hb => ?_) ?_
    · show g.get? b = some o
      exact (Heap.get?_update_other _ _ (Nat.ne_of_gt (Heap.lt_size hb))).trans (Heap.get?_push_of_some _ hb)
    · show s.heap.objs.size ≤ ((s.heap.push _).update _ _).objs.size
      rw [Heap.size_update, Heap.size_push]; exact Nat.le_succ _
  unfold collect
  refine wpAny_bind (wpAny_runValue (codeAny_builtin F.entry_proto_collect ?_))
  rw [Around.under_plainId F.plain_proto_collect _]
  show wpAny _ A.in1 (newList [] >>= fun l => again (.builtin "list.__iadd__" ⟨[l, .ref r], []⟩)) _ _ s
  refine wpAny_bind (wpAny_newObj_type (wpAny_pure ⟨plainId_quiet F.plain_list_iadd _, codeAny_builtin F.entry_list_iadd ?_⟩))
  rw [Around.under_plainId F.plain_list_iadd _]
  show wpAny _ A.in1 (Builtin.List.listExtendWith (.ref s.heap.objs.size) (.ref r) (.ref s.heap.objs.size)) _ _ _
  refine wpAny_mono (wpAny_extend_seq (hsz := hz) (A := A) (R := fun z s' => z = .ok (.ret (.ref s.heap.objs.size)) ∧ s' = { s with heap := g }) (s := { s with heap := s.heap.push { cls := .type "list", data := .seq ([] : List Value).toArray } }) _ r _ 0 hty n0 (Heap.get?_push_of_some _ e1) e2 e3 ⟨rfl, rfl⟩) (fun fin s' x => ?_) (fun e s' x => ?_)
  · cases fin with
    | done f => obtain ⟨e, rfl⟩ := x; cases e; exact done
    | again c' => exact ⟨x.1, codeAny_mono x.2 fun z s'' hr => by obtain ⟨rfl, rfl⟩ := hr; exact done⟩
  · exact absurd x.1 (by simp)
theorem sorted_coll {prog : Program} {w : World} {A : Around} {E : Value → Shared → Prop} {s : Shared} {Q : Value → Shared → Prop} {r : Addr} {its : List Value} (hz : its.length ≤ sizeLine)
    (coll : ∀ R : List Value → Shared → Prop, (∀ h' tk, (∀ b o, s.heap.get? b = some o → h'.get? b = some o) → s.heap.objs.size ≤ h'.objs.size → R its { s with heap := h', toks := tk }) → wpAny (model prog w) A.in1 (collect (.ref r)) R E s)
    (h : ∀ (h' : Heap) (tk : Nat), (∀ b o, s.heap.get? b = some o → h'.get? b = some o) → s.heap.objs.size ≤ h'.objs.size →
      wpAny (model prog w) A.in1 (call (.builtin "list.sort") [.ref h'.objs.size]) (fun _ s' => Q (.ref h'.objs.size) s') E { s with heap := h'.push { cls := .type "list", data := .seq its.toArray }, toks := tk }) :
    wpAny (model prog w) A (call (.builtin "sorted") [.ref r]) Q E s := by
  refine PySem.Calls.call_function_entry kind_sorted plain_sorted entry_sorted (args_sorted1 _) ?_
  unfold Builtin.«sorted»
  refine wpAny_bind (m := checkCount "sorted" 1 1 _) (wpAny_pure (wpAny_bind (coll _ fun h' tk hk hl => ?_)))
  refine wpAny_bind (wpAny_newList (wpAny_bind (wpAny_holding (wpAny_mono (h h' tk hk hl) (fun _ s' x => ?_) fun _ _ e => e))) hz)
  exact wpAny_pure ⟨_, rfl, x⟩
theorem oneType_tups {M : Model} {A : Around} {s : Shared} {E : Value → Shared → Prop} {vs : List Value} {ds : List PyData} {Q : Option Value → Shared → Prop} (e : PySem.W.EachIs (fun v d => ∃ as, Reads s.heap v d as) vs ds) (ht : ∀ d ∈ ds, ∃ xs, d = .tuple xs) (h2 : 2 ≤ vs.length)
    (h : Q (some (.type "tuple")) s) : wpAny M A (PyProof.Rows.oneTypeOnly' vs.toArray) Q E s := by
  have tys : ∀ v ∈ vs, PySem.W.Looks M s.heap (typeOf v) (.type "tuple") := fun v hv => by
    obtain ⟨d, hd, as, r⟩ := e.left v hv
    obtain ⟨xs, rfl⟩ := ht d hd
    exact PySem.W.looks_reads r
  rw [PyProof.Rows.oneTypeOnly'_eq, List.mapM_toArray, map_eq_pure_bind]
  refine wpAny_bind (wpAny_bind (PySem.W.kas_mapM (r := .type "tuple") _ (fun v hv Q' hq => (tys v hv).here hq) (wpAny_pure ?_)))
  obtain ⟨v1, rest, rfl⟩ : ∃ v1 rest, vs = v1 :: rest := by
    match vs, h2 with
    | [], h2 => simp at h2
    | v :: r, _ => exact ⟨v, r, rfl⟩
  have e0 : (((v1 :: rest).map fun _ => Value.type "tuple").toArray)[0]? = some (.type "tuple") := rfl
  rw [e0]
  have e1 : ((((v1 :: rest).map fun _ => Value.type "tuple").toArray).all (· == Value.type "tuple")) = true := by simp
  show wpAny M A (pure (if _ = true then _ else _)) Q E s
  rw [if_pos e1]
  exact wpAny_pure h
/-- tuples can be sorted, the empty one among them too -/
theorem one_tup {prog : Program} {w : World} {A : Around} {s : Shared} {E : Value → Shared → Prop} {Q : Bool → Shared → Prop} {xs ys : List PyData} {a b : Value} {as bs : List Addr} (ra : Reads s.heap a (.tuple xs) as) (rb : Reads s.heap b (.tuple ys) bs) (h : PySem.W.alike (.tuple xs) (.tuple ys) = true)
    (hu : A.units + min (PyData.tuple xs).depth (PyData.tuple ys).depth < cLine) (hq : Q (PySem.W.dataLt (.tuple xs) (.tuple ys)) s) : wpAny (model prog w) A (PyProof.Rows.oneLt' true a b) Q E s := by
  have hal : PySem.W.alikeAll xs ys = true := by simpa [PySem.W.alike] using h
  cases ra with
  | @tuple l o vs n _ as1 h1 h2 h3 h4 =>
    cases rb with
    | @tuple l' o' vs' n' _ bs1 k1 k2 k3 k4 =>
      obtain ⟨c1, d1, e1, g1⟩ := o
      obtain ⟨c2, d2, e2, g2⟩ := o'
      simp only at h2 h3 k2 k3
      subst h2 h3 k2 k3
      have m1 : vs.size = xs.length := by simpa using PySem.SeqAt.ReadsAll.length _ _ _ h4
      have m2 : vs'.size = ys.length := by simpa using PySem.SeqAt.ReadsAll.length _ _ _ k4
      rw [PySem.W.dataLt_tuple, ← PySem.W.firstLt_toks xs ys hal, ← m1, ← m2] at hq
      rw [PyProof.Rows.oneLt'_eq]
      simp only [if_true]
      refine wpAny_bind (wpAny_cRoomFor (PySem.SeqAt.room_here hu) ?_)
      refine wpAny_bind (wpAny_callSpecialIfBound?_slot (T := "tuple") ⟨_, h1, rfl⟩ F.slot_tuple_lt (call_meets F.slot_tuple_lt ⟨_, h1, rfl⟩ F.entry_tuple_lt (F.args_tuple_lt_2 _ _)
        (PySem.SeqAt.tuple_ltAt l l' vs vs' n n' d1 d2 g1 g2 (PySem.SeqAt.pairEq xs ys) fun j => PySem.W.dataLt (xs.getD j .none) (ys.getD j .none)) ⟨h1, k1, fun j j1 j2 => ?_, fun j j1 j2 hj => ?_, ?_⟩))
      · have := PySem.W.eqAt_alikeAll xs ys A.in1 s vs.toList vs'.toList _ _ h4 k4 hal (PySem.SeqAt.room_in hu) j (by simpa using j1) (by simpa using j2)
        simpa using this
      · have := PySem.W.rcLt_alikeAll xs ys A.in1 s vs.toList vs'.toList _ _ h4 k4 hal (PySem.SeqAt.room_in hu) j (by simpa using j1) (by simpa using j2) hj
        simpa using this
      · exact wpAny_truthy_bool hq
theorem firsts_any {M : Model} {A : Around} {s : Shared} {E : Value → Shared → Prop} : ∀ {vs : List Value} {ds : List PyData} {Q : List (Option Value) → Shared → Prop}, PySem.W.EachIs (fun v d => ∃ as, Reads s.heap v d as) vs ds → (∀ d ∈ ds, ∃ xs, d = .tuple xs) →
    (∀ fs : List (Option Value), fs.length = vs.length → (∀ i : Nat, ∀ d, ds[i]? = some d → ((fs[i]?.bind id).isSome = true ↔ d ≠ .tuple [])) → Q fs s) → wpAny M A (vs.mapM PyProof.Rows.firstOfTuple') Q E s
  | _, _, Q, .nil, _, h => by rw [List.mapM_nil]; exact wpAny_pure (h [] rfl fun i d e => by simp at e)
  | _, _, Q, .cons (b := d) ⟨as, r⟩ t, ht, h => by
    obtain ⟨xs, rfl⟩ := ht d (List.mem_cons_self ..)
    rw [List.mapM_cons]
    cases r with
    | @tuple a o vs n _ _ h1 h2 h3 h4 =>
      refine wpAny_bind ?_
      rw [PySem.W.kas_first_eq]
      refine wpAny_bind (PySem.W.Looks.here (show PySem.W.Looks M s.heap (typeOf (.ref a)) o.cls from (PySem.W.Looks.ld h1).andThen .now) ?_)
      rw [h2, if_neg (by first | decide | simp)]
      refine wpAny_bind (listItems_at h1 h3 (wpAny_pure ?_))
      refine wpAny_bind (firsts_any t (fun d hd => ht d (List.mem_cons_of_mem _ hd)) fun fs hl hf => wpAny_pure (h _ (by simp [hl]) fun i d e => ?_))
      cases i with
      | zero =>
        simp only [List.getElem?_cons_zero, Option.some.injEq] at e
        subst e
        have m := PySem.SeqAt.ReadsAll.length _ _ _ h4
        rw [List.getElem?_cons_zero]
        cases xs with
        | nil => simp at m; simp [m]
        | cons x xs =>
          have : 0 < vs.size := by simp at m; omega
          simp [this]
      | succ i =>
        simp only [List.getElem?_cons_succ] at e ⊢
        exact hf i d e
theorem sortsAt_tups {prog : Program} {w : World} {A : Around} {s : Shared} {vs : List Value} {ds : List PyData} (e : PySem.W.EachIs (fun v d => ∃ as, Reads s.heap v d as) vs ds) (hal : PySem.W.AllAlike ds) (ht : ∀ d ∈ ds, ∃ xs, d = .tuple xs) (hu : ∀ d, d ∈ ds → A.units + d.depth < cLine) : PySem.W.SortsAt prog w A s (PySem.W.dataKind s.heap ds) vs := by
  by_cases hall : ∀ d ∈ ds, ∃ x r, d = .tuple (x :: r)
  · exact PySem.W.SortsAt.data e hal (.inl hall) hu
  · have hex : ∃ d ∈ ds, d = .tuple [] := Classical.byContradiction fun z => hall fun d hd => by
      obtain ⟨xs, rfl⟩ := ht d hd
      cases xs with
      | nil => exact absurd ⟨_, hd, rfl⟩ z
      | cons x r => exact ⟨x, r, rfl⟩
    have keys : ∀ v, v ∈ vs → ∃ a, (PySem.W.dataKind s.heap ds).keyOf v = some a := fun v hv => by
      obtain ⟨d, hd, as, r⟩ := e.left v hv
      exact ⟨_, PySem.W.dataKind_some hal hd r⟩
    have room : ∀ {d d' : PyData}, d ∈ ds → A.units + min d.depth d'.depth < cLine := fun {d d'} hd => Nat.lt_of_le_of_lt (Nat.add_le_add_left (Nat.min_le_left _ _) _) (hu d hd)
    obtain ⟨d1, hd1, e1⟩ := hex
    obtain ⟨i1, hi1⟩ := List.mem_iff_getElem?.mp hd1
    have notall : ∀ fs : List (Option Value), fs.length = vs.length → (∀ i : Nat, ∀ d, ds[i]? = some d → ((fs[i]?.bind id).isSome = true ↔ d ≠ .tuple [])) → ¬ (fs.toArray.all (·.isSome)) = true := fun fs hl hf z => by
      have hlt : i1 < fs.length := by rw [hl, e.length]; exact (List.getElem?_eq_some_iff.mp hi1).1
      have h1 := (hf i1 d1 hi1).mp (by
        rw [List.getElem?_eq_getElem hlt]
        have := List.all_eq_true.mp (by simpa using z) fs[i1] (List.getElem_mem hlt)
        simpa using this)
      exact h1 e1
    by_cases hf0 : ∃ d0, ds[0]? = some d0 ∧ d0 ≠ .tuple []
    · refine ⟨keys, PyProof.Rows.general', fun E x y a b Q ha hb hq => ?_, fun h2 E Q hq => ?_⟩
      · obtain ⟨d, as, hd, ra, rfl⟩ := PySem.W.dataKind_inv ha
        obtain ⟨d', as', hd', rb, rfl⟩ := PySem.W.dataKind_inv hb
        obtain ⟨xs, rfl⟩ := ht d hd
        exact PySem.W.oneLt_alike (f := false) (fun z => Bool.noConfusion z) ra rb (hal _ hd d' hd') (fun z => nomatch z) (room hd) hq
      · obtain ⟨d0, h0, h0'⟩ := hf0
        rw [PyProof.Rows.keyKind'_eq, List.mapM_toArray, map_eq_pure_bind]
        refine wpAny_bind (wpAny_bind (firsts_any e ht fun fs hl hf => wpAny_pure ?_))
        rw [if_neg (notall fs hl hf)]
        rw [if_pos (by have := (hf 0 d0 h0).mpr h0'; simpa using this)]
        exact wpAny_pure hq
    · refine ⟨keys, PyProof.Rows.oneType', fun E x y a b Q ha hb hq => ?_, fun h2 E Q hq => ?_⟩
      · obtain ⟨d, as, hd, ra, rfl⟩ := PySem.W.dataKind_inv ha
        obtain ⟨d', as', hd', rb, rfl⟩ := PySem.W.dataKind_inv hb
        obtain ⟨xs, rfl⟩ := ht d hd
        obtain ⟨ys, rfl⟩ := ht d' hd'
        rw [PyProof.Rows.keyLt'_oneType]
        exact one_tup ra rb (hal _ hd _ hd') (room hd) hq
      · rw [PyProof.Rows.keyKind'_eq, List.mapM_toArray, map_eq_pure_bind]
        refine wpAny_bind (wpAny_bind (firsts_any e ht fun fs hl hf => wpAny_pure ?_))
        rw [if_neg (notall fs hl hf)]
        rw [if_neg (fun z => by
          cases q : ds[0]? with
          | none =>
            have hl0 : 0 < ds.length := by rw [← e.length]; omega
            rw [List.getElem?_eq_getElem hl0] at q; cases q
          | some d0 => exact hf0 ⟨d0, q, (hf 0 d0 q).mp (by simpa using z)⟩)]
        refine wpAny_bind (oneType_tups e ht h2 ?_)
        exact wpAny_pure hq
section
variable {X : Cx} {K : PySem.W.Frag} {pins : List (Addr × Obj)} {σ : L2.St} {H : Hp} {s : Shared}
theorem srt_any (I : Inv X pins σ H s) (hu : X.A.units + 64 < cLine) {r : Addr} {xs : List V} {its : List Value} {ds : List PyData} {Q : VK} (rv : Vals xs its) (hz : xs.length ≤ sizeLine) (hd : DpAll X.K H xs ds)
    (coll : ∀ R : List Value → Shared → Prop, (∀ h' tk, (∀ b o, s.heap.get? b = some o → h'.get? b = some o) → s.heap.objs.size ≤ h'.objs.size → R its { s with heap := h', toks := tk }) → wpAny (model X.prog X.w) X.A.in1 (collect (.ref r)) R X.xe s)
    (ha : PySem.W.AllAlike ds) (hk : (∀ d ∈ ds, ∃ xs, d = .tuple xs) ∨ ∀ d ∈ ds, d ≠ .none ∧ ∀ xs, d ≠ .tuple xs) (hdep : ∀ d ∈ ds, d.depth ≤ 32)
    (q : ∀ ys p, DpAll X.K H ys (ds.mergeSort (PySem.W.dataLe false fun d => d)) → H p = none → Q (.ref p) (upd H p (.lst ys))) :
    wpAny (model X.prog X.w) X.A (call (.builtin "sorted") [.ref r]) (EP X pins σ Q) X.xe s := by
  have e1 := each_of rv hd
  have ln : ds.length ≤ sizeLine := by rw [← dpAll_len hd]; exact hz
  have iz : its.length ≤ sizeLine := by rw [← rv.length]; exact hz
  refine sorted_coll iz coll fun h' tk hk' hn0 => ?_
  have hob : (h'.push { cls := .type "list", data := .seq its.toArray }).get? h'.objs.size = some (seqObj "list" its.toArray 0) := Heap.get?_push_size _ rfl
  have kb : ∀ b o, s.heap.get? b = some o → (h'.push { cls := .type "list", data := .seq its.toArray }).get? b = some o := fun b o e => Heap.get?_push_of_some _ (hk' b o e)
  generalize h'.push { cls := .type "list", data := .seq its.toArray } = h2 at hob kb
  have er : PySem.W.EachIs (fun u d => ∃ as, Reads h2 u d as ∧ h'.objs.size ∉ as) its ds := each_mono (fun u d ⟨v, r1, hv⟩ => by
    obtain ⟨as, hr⟩ := Dp.reads I d v u hv r1
    exact ⟨as, PyProof.Rows.Reads.keeps kb hr, fun hm => Nat.not_lt.mpr hn0 (reads_lt hr _ hm)⟩) e1
  have fin : ∀ out : List Value, out.length = ds.length → PySem.W.EachIs (fun u d => ∃ v, RelV v u ∧ Dp X.K H v d) out (ds.mergeSort (PySem.W.dataLe false fun d => d)) → EP X pins σ Q (.ref h'.objs.size) { s with heap := sortedHeap h2 h'.objs.size its (List.toArray out), toks := tk } := fun out ho hE => by
    obtain ⟨ys, rv2, hy⟩ := of_each hE
    obtain ⟨ep, he'⟩ := PyProof.Rows.sortedHeap_at (vs := its) (out := List.toArray out) hob
    have hlen : ys.length ≤ sizeLine := by rw [rv2.length, ho]; exact ln
    have kF : ∀ b o, s.heap.get? b = some o → (sortedHeap h2 h'.objs.size its (List.toArray out)).get? b = some o := fun b o e => (PyProof.Rows.sortedHeap_old (Nat.ne_of_lt (Nat.lt_of_lt_of_le (Heap.lt_size e) hn0)) (Heap.lt_size (kb b o e))).trans (kb b o e)
    exact ⟨.ref _, upd H h'.objs.size (.lst ys), I.laid (t' := tk) kF hn0 ⟨hlen, out, ep, rv2, he'⟩, rfl, q ys _ hy (I.hok.fresh hn0)⟩
  rcases hk with hk | hk
  · have er2 : PySem.W.EachIs (fun u d => ∃ as, Reads (PySem.W.sortingHeap h2 h'.objs.size its) u d as) its ds := by
      have := PySem.W.each_keepBut (bs := ds) (enc := fun d : PyData => d) (h' := PySem.W.sortingHeap h2 h'.objs.size its) (fun _ _ hb q => PySem.W.sortingHeap_old hb q) (fun o q => by rw [hob] at q; rw [← Option.some.inj q]) (by rw [List.map_id']; exact ha) er
      exact this
    refine wpAny_call_entry PyProof.Rows.slot_list_sort ⟨_, hob, rfl⟩ PyProof.Rows.entry_list_sort (PySem.W.list_sort_vals hob (sortsAt_tups (s := { s with heap := PySem.W.sortingHeap h2 h'.objs.size its, toks := tk }) er2 ha hk fun d hm => by have := hdep d hm; show _ + 1 + 1 + _ < _; omega) iz ?_) (PyProof.Rows.args_list_sort _)
    refine ⟨.none, rfl, fin _ (by rw [PySem.W.sortVals_length false rfl]; exact e1.length) ?_⟩
    have := PySem.W.sortVals_data (h' := PySem.W.sortingHeap h2 h'.objs.size its) (enc := fun d : PyData => d) false e1 er2 (by rw [List.map_id']; exact ha)
    rw [List.map_id'] at this
    exact this
  · exact PySem.W.list_sort_data (s := { s with heap := h2, toks := tk }) (enc := fun d : PyData => d) hob e1 er (by rw [List.map_id']; exact ha) (.inr (by rw [List.map_id']; exact hk)) ln (fun d hm => by have := hdep d hm; show _ + 1 + 1 + _ < _; omega) fun out ho hE => fin out ho hE
def rSortedW (K : PySem.W.Frag) : List V → Hp → VK → Prop := fun vs H Q => ∃ (a : Addr) (xs : List V) (ds : List PyData), vs = [.ref a] ∧ SqL K H a xs ∧ DpAll K H xs ds ∧ PySem.W.AllAlike ds ∧ ((∀ d ∈ ds, ∃ xs, d = .tuple xs) ∨ ∀ d ∈ ds, d ≠ .none ∧ ∀ xs, d ≠ .tuple xs) ∧ (∀ d ∈ ds, d.depth ≤ 32) ∧
  ∀ ys p, DpAll K H ys (ds.mergeSort (PySem.W.dataLe false fun d => d)) → H p = none → Q (.ref p) (upd H p (.lst ys))
theorem cW_sorted (e : X.K = K) (hu : X.A.units + 64 < cLine) : CallR X (.builtin "sorted") (rSortedW K) := by
  subst e
  intro pins s σ H vs us Q I r h
  obtain ⟨a, xs, ds, rfl, hs, hd, ha, hk, hdep, q⟩ := h
  obtain ⟨its, rv, ⟨o, n, ho, hc, _, hdat⟩, hz⟩ := I.list hs
  rw [Vals.ref1 r]
  exact srt_any I hu rv hz hd (fun R k => coll_seq (.inl rfl) ho hc hdat (by rw [List.size_toArray, ← rv.length]; exact hz) fun h' hk hl => k h' s.toks hk hl) ha hk hdep q
end
end Sl
namespace Sl
open PySem PySem.Spec PyProof.Rows L2
end Sl
namespace Mi
open PySem PySem.Spec PyProof.Rows L2
open Sl (isTup sz szl slt)
/-! ### data in order -/
def ltI (x y : Int) : Bool := decide (x < y)
def ltT (x y : Str) : Bool := decide (slt x y)
def ltL {α : Type} [DecidableEq α] (lt : α → α → Bool) : List α → List α → Bool
  | _, [] => false
  | [], _ :: _ => true
  | x :: xs, y :: ys => if x = y then ltL lt xs ys else lt x y
def ltP {α β : Type} [DecidableEq α] [DecidableEq β] (l1 : α → α → Bool) (l2 : β → β → Bool) (x y : α × β) : Bool := if x.1 = y.1 then (if x.2 = y.2 then false else l2 x.2 y.2) else l1 x.1 y.1
def gdL {α : Type} (_ : List α) : Bool := true
def gdA {α : Type} (_ : α) : Bool := true
class Od (K : PySem.W.Frag) {α : Type} [DecidableEq α] (t : α → Pv) extends Dat K t where
  lt : α → α → Bool
  gd : α → Bool
  ltE : ∀ x y, PySem.W.dataLt (enc x) (enc y) = lt x y
  alk : ∀ x y, PySem.W.alike (enc x) (enc y) = true
  sk : (∀ x, ∃ ds, enc x = .tuple ds) ∨ (∀ x, enc x ≠ .none ∧ ∀ ds, enc x ≠ .tuple ds)
  nn : ∀ x, enc x ≠ .none
  fit : α → Prop
  ofp : ∀ x S H v, (t x).p S H v → fit x
  back : ∀ x S H v, Dp K H v (enc x) → fit x → (t x).p S H v
section
variable {K : PySem.W.Frag} {α β γ : Type} [DecidableEq α] [DecidableEq β] {t : α → Pv} {u : β → Pv}
instance : Od K yInt := { lt := ltI, gd := gdA, ltE := PySem.W.dataLt_int, alk := fun _ _ => rfl, sk := .inr fun _ => ⟨fun z => (nomatch z), fun _ z => nomatch z⟩, nn := fun _ z => (nomatch z), fit := fun _ => True, ofp := fun _ _ _ _ _ => trivial, back := fun x S H v h _ => by cases h; rfl }
instance : Od K yStr := { lt := ltT, gd := gdA, ltE := PySem.W.dataLt_str, alk := fun _ _ => rfl, sk := .inr fun _ => ⟨fun z => (nomatch z), fun _ z => nomatch z⟩, nn := fun _ z => (nomatch z), fit := fun _ => True, ofp := fun _ _ _ _ _ => trivial, back := fun x S H v h _ => by cases h; rfl }
theorem rowLt_of [D : Od K t] : ∀ xs ys : List α, PySem.W.rowLt (xs.map D.enc) (ys.map D.enc) = ltL D.lt xs ys
  | [], [] => by
    rw [List.map_nil]
    show PySem.W.rowLt [] [] = false
    decide +kernel
  | [], y :: ys => by
    rw [List.map_nil, List.map_cons]
    show PySem.W.rowLt [] _ = true
    unfold PySem.W.rowLt
    rw [PySem.W.toks_all_cons, show PySem.W.keyToksAll [] = [Sum.inl 0] by rw [PySem.W.keyToksAll], PySem.W.lex_atom (by decide), PySem.W.lex_one]
    decide
  | x :: xs, [] => by
    rw [List.map_nil, List.map_cons]
    show PySem.W.rowLt _ [] = false
    unfold PySem.W.rowLt
    rw [PySem.W.toks_all_cons, show PySem.W.keyToksAll [] = [Sum.inl 0] by rw [PySem.W.keyToksAll], PySem.W.lex_atom (by decide), PySem.W.lex_one]
    decide
  | x :: xs, y :: ys => by
    show PyProof.Rows.lexLt _ _ _ = _
    rw [List.map_cons, List.map_cons, PySem.W.dataLt_cons (D.alk x y)]
    show _ = if x = y then ltL D.lt xs ys else D.lt x y
    by_cases e : x = y
    · rw [if_pos ((D.eq x y).mpr e), if_pos e]; exact rowLt_of xs ys
    · rw [if_neg fun z => e ((D.eq x y).mp z), if_neg e]; exact D.ltE x y
theorem alikes_of [D : Od K t] : ∀ xs ys : List α, PySem.W.alikeAll (xs.map D.enc) (ys.map D.enc) = true
  | [], _ => by simp [PySem.W.alikeAll]
  | _ :: _, [] => by simp [PySem.W.alikeAll]
  | x :: xs, y :: ys => by rw [List.map_cons, List.map_cons, PySem.W.alikeAll, D.alk x y, alikes_of xs ys]; rfl
theorem fits_of [D : Od K t] {S : Fz} {H : Hp} : ∀ {vs : List V} {xs : List α}, PsOk S H vs (xs.map t) → ∀ x ∈ xs, D.fit x
  | [], [], _, _, h => nomatch h
  | [], _ :: _, h, _, _ => False.elim h
  | _ :: _, [], h, _, _ => False.elim h
  | v :: vs, y :: ys, h, x, hx => by
    rcases List.mem_cons.mp hx with e | hx
    · rw [e]; exact D.ofp y S H v h.1
    · exact fits_of h.2 x hx
theorem backs_of [D : Od K t] {S : Fz} {H : Hp} : ∀ {vs : List V} {xs : List α}, DpAll K H vs (xs.map D.enc) → (∀ x ∈ xs, D.fit x) → PsOk S H vs (xs.map t)
  | [], [], _, _ => trivial
  | [], _ :: _, h, _ => nomatch h
  | _ :: _, [], h, _ => nomatch h
  | v :: vs, x :: xs, .cons h hs, f => ⟨D.back x S H v h (f x (List.mem_cons_self ..)), backs_of hs fun y hy => f y (List.mem_cons_of_mem _ hy)⟩
theorem dpAll_length {H : Hp} : ∀ {vs : List V} {ds : List PyData}, DpAll K H vs ds → vs.length = ds.length
  | _, _, .nil => rfl
  | _, _, .cons _ h => congrArg Nat.succ (dpAll_length h)
theorem dp_tup {H : Hp} {v : V} {ds : List PyData} (h : Dp K H v (.tuple ds)) : ∃ a vs, v = .ref a ∧ SqT K H a vs ∧ DpAll K H vs ds := by
  cases h with
  | tup h1 h2 => exact ⟨_, _, rfl, h1, h2⟩
theorem dpAll2 {H : Hp} {vs : List V} {d e : PyData} (h : DpAll K H vs [d, e]) : ∃ v w, vs = [v, w] ∧ Dp K H v d ∧ Dp K H w e := by
  cases h with
  | cons h hs => cases hs with
    | cons h' ht => cases ht with
      | nil => exact ⟨_, _, rfl, h, h'⟩
instance [D : Od K t] : Od K (fun xs : List α => yTup K t xs) := {
  lt := ltL D.lt, gd := gdL
  ltE := fun xs ys => by
    show PySem.W.dataLt (.tuple _) (.tuple _) = _
    rw [PySem.W.dataLt_tuple]; exact rowLt_of xs ys
  alk := fun xs ys => by
    show PySem.W.alike (.tuple _) (.tuple _) = true
    rw [PySem.W.alike]; exact alikes_of xs ys
  sk := .inl fun xs => ⟨_, rfl⟩
  nn := fun _ z => nomatch z
  fit := fun xs => xs.length ≤ sizeLine ∧ ∀ x ∈ xs, D.fit x
  ofp := fun xs S H v ⟨a, vs, _, _, h, hl⟩ => ⟨by rw [← (List.length_map (f := t)), ← h.length]; exact hl, fits_of h⟩
  back := fun xs S H v h f => by
    have h : Dp K H v (.tuple (xs.map D.enc)) := h
    obtain ⟨a, vs, rfl, h1, h2⟩ := dp_tup h
    exact ⟨a, vs, rfl, h1, backs_of h2 f.2, by rw [dpAll_length h2, List.length_map]; exact f.1⟩ }
instance [D : Od K t] [D' : Od K u] : Od K (yPr K t u) := {
  lt := ltP D.lt D'.lt, gd := gdA
  ltE := fun x y => by
    show PySem.W.dataLt (.tuple [_, _]) (.tuple [_, _]) = _
    rw [PySem.W.dataLt_pair (D.alk _ _) (D'.alk _ _)]
    unfold ltP
    by_cases e : x.1 = y.1
    · rw [if_pos ((D.eq _ _).mpr e), if_pos e]
      by_cases e2 : x.2 = y.2
      · rw [if_pos ((D'.eq _ _).mpr e2), if_pos e2]
      · rw [if_neg fun z => e2 ((D'.eq _ _).mp z), if_neg e2]; exact D'.ltE _ _
    · rw [if_neg fun z => e ((D.eq _ _).mp z), if_neg e]; exact D.ltE _ _
  alk := fun x y => by
    show PySem.W.alike (.tuple [_, _]) (.tuple [_, _]) = true
    rw [PySem.W.alike, PySem.W.alikeAll, D.alk, PySem.W.alikeAll, D'.alk]; simp [PySem.W.alikeAll]
  sk := .inl fun _ => ⟨_, rfl⟩
  nn := fun _ z => nomatch z
  fit := fun x => D.fit x.1 ∧ D'.fit x.2
  ofp := fun x S H v ⟨a, vs, _, _, h, _⟩ => by
    match vs, h with
    | [v1, v2], h => exact ⟨D.ofp _ _ _ _ h.1, D'.ofp _ _ _ _ h.2.1⟩
  back := fun x S H v h f => by
    have h : Dp K H v (.tuple [D.enc x.1, D'.enc x.2]) := h
    obtain ⟨a, vs, rfl, h1, h2⟩ := dp_tup h
    obtain ⟨v1, v2, rfl, p, q⟩ := dpAll2 h2
    exact ⟨a, [v1, v2], rfl, h1, ⟨D.back _ _ _ _ p f.1, D'.back _ _ _ _ q f.2, trivial⟩, by rw [sizeLine_eq]; show 2 ≤ 16777216; omega⟩ }
end
def sortB {α : Type} (lt : α → α → Bool) (xs : List α) : List α := xs.mergeSort fun a b => !lt b a
def psortB {α : Type} (lt : α → α → Bool) (gd : α → Bool) (xs : List α) : Res (List α) := .ok (sortB lt xs)
section
variable {ρ : Type} {A : Nat → Addr} {E : L2.St → XK} {K : PySem.W.Frag} {Γ : Ctx} {c : Res ρ} {κ : Ctx → Vo → Res ρ → Prop} {α β : Type} {t : α → Pv} {te td tke tve : TE} {tr : TA} {i : Nat}
theorem srt_of [DecidableEq α] [D : Od K t] (hn : D.n ≤ 32) {xs : List α} {S : Fz} {H : Hp} {ws : List V} (hw : PsOk S H ws (xs.map t)) (hl : ws.length ≤ sizeLine) : DpAll K H ws (xs.map D.enc) ∧ PySem.W.AllAlike (xs.map D.enc) ∧ ((∀ d ∈ xs.map D.enc, ∃ ds, d = .tuple ds) ∨ ∀ d ∈ xs.map D.enc, d ≠ .none ∧ ∀ ds, d ≠ .tuple ds) ∧ (∀ d ∈ xs.map D.enc, d.depth ≤ 32) ∧
    ∀ ys, DpAll K H ys ((xs.map D.enc).mergeSort (PySem.W.dataLe false fun d => d)) → PsOk S H ys ((sortB D.lt xs).map t) ∧ ys.length ≤ sizeLine := by
  have me : ∀ d ∈ xs.map D.enc, ∃ x, x ∈ xs ∧ d = D.enc x := fun d hd => by
    obtain ⟨x, hx, rfl⟩ := List.mem_map.mp hd; exact ⟨x, hx, rfl⟩
  refine ⟨dps_of hw, fun d hd d' hd' => ?_, ?_, fun d hd => ?_, fun ys hy => ?_⟩
  · obtain ⟨x, _, rfl⟩ := me d hd
    obtain ⟨y, _, rfl⟩ := me d' hd'
    exact D.alk x y
  · rcases D.sk with s | s
    · exact .inl fun d hd => by
        obtain ⟨x, hx, rfl⟩ := me d hd
        exact s x
    · exact .inr fun d hd => by
        obtain ⟨x, hx, rfl⟩ := me d hd
        exact s x
  · obtain ⟨x, hx, rfl⟩ := me d hd
    exact Nat.le_trans (dep_mem (K := K) hw x hx) hn
  · have e : (xs.map D.enc).mergeSort (PySem.W.dataLe false fun d => d) = (sortB D.lt xs).map D.enc := by
      unfold sortB
      rw [List.map_mergeSort (s := PySem.W.dataLe false fun d => d)]
      intro x _ y _
      rw [PySem.W.dataLe_eq]
      show (!D.lt y x) = (!PySem.W.dataLt (D.enc y) (D.enc x))
      rw [D.ltE]
    rw [e] at hy
    have pm : (sortB D.lt xs).Perm xs := List.mergeSort_perm ..
    have hf : ∀ x ∈ sortB D.lt xs, D.fit x := fun x hx => fits_of hw x (pm.mem_iff.mp hx)
    exact ⟨backs_of hy hf, by rw [dpAll_length hy, List.length_map, pm.length_eq, ← List.length_map (f := t), ← hw.length]; exact hl⟩
theorem rc_sortQ [DecidableEq α] [D : Od K t] (hn : D.n ≤ 32) {xs : List α} {k : List α → Res ρ} (e : c = (psortB D.lt D.gd xs).bind k) (h : ∀ ys, κ Γ (.own (wLst K t ys)) (k ys)) : RC A E (fun _ => Sl.rSortedW K) [.val (yLst K t xs)] Γ c κ := fun F T S σ H vs Q' O R hc hg kk => by
  subst e
  obtain ⟨v, rfl, hv⟩ := ag1 hg
  obtain ⟨a, ws, rfl, hs, hw, hl⟩ := hv
  obtain ⟨q1, q2, q3, q4, q5⟩ := srt_of (K := K) hn hw hl
  exact ⟨a, ws, xs.map D.enc, rfl, hs.1, q1, q2, q3, q4, fun ys p hy hp => kk _ _ _ (h _) S _ _ (R.new hp) (le_new hp) (isOwn R hp ⟨ys, rfl, (q5 ys hy).1.up (le_new hp), (q5 ys hy).2⟩) hc⟩
/-- membership, by the one decision of equality -/
def pin {α : Type} [DecidableEq α] (x : α) (ys : List α) : Bool := decide (x ∈ ys)
/-! sorted(d.items()) -/
/-! {**d, k: v} -/
end
end Mi
namespace Mi
open PySem PySem.Spec PyProof.Rows L2
open Sl (isTup sz szl slt)
end Mi
namespace Sl
open PySem PySem.Spec PyProof.Rows L2
/-! ### match: sequences of texts and names -/
end Sl
namespace Mi
open PySem PySem.Spec PyProof.Rows L2
open Sl (isTup sz szl slt)
/-! ### data of mixed kinds: ints, texts, None, tuples of such -/
inductive Dy | non | int (i : Int) | str (s : Str) | tup (xs : List Dy)
mutual
def decDy : (a b : Dy) → Decidable (a = b)
  | .non, .non => .isTrue rfl
  | .int i, .int j => if h : i = j then .isTrue (by rw [h]) else .isFalse fun e => h (by injection e)
  | .str i, .str j => if h : i = j then .isTrue (by rw [h]) else .isFalse fun e => h (by injection e)
  | .tup xs, .tup ys => match decDys xs ys with
    | .isTrue h => .isTrue (by rw [h])
    | .isFalse h => .isFalse fun e => h (by injection e)
  | .non, .int _ => .isFalse nofun
  | .non, .str _ => .isFalse nofun
  | .non, .tup _ => .isFalse nofun
  | .int _, .non => .isFalse nofun
  | .int _, .str _ => .isFalse nofun
  | .int _, .tup _ => .isFalse nofun
  | .str _, .non => .isFalse nofun
  | .str _, .int _ => .isFalse nofun
  | .str _, .tup _ => .isFalse nofun
  | .tup _, .non => .isFalse nofun
  | .tup _, .int _ => .isFalse nofun
  | .tup _, .str _ => .isFalse nofun
def decDys : (a b : List Dy) → Decidable (a = b)
  | [], [] => .isTrue rfl
  | [], _ :: _ => .isFalse nofun
  | _ :: _, [] => .isFalse nofun
  | x :: xs, y :: ys => match decDy x y, decDys xs ys with
    | .isTrue h, .isTrue k => .isTrue (by rw [h, k])
    | .isFalse h, _ => .isFalse fun e => h (by injection e)
    | _, .isFalse k => .isFalse fun e => k (by injection e)
end
instance : DecidableEq Dy := decDy
instance : Inhabited Dy := ⟨.non⟩
mutual
def encDy : Dy → PyData
  | .non => .none
  | .int i => .int i
  | .str s => .str s
  | .tup xs => .tuple (encDys xs)
def encDys : List Dy → List PyData
  | [] => []
  | x :: xs => encDy x :: encDys xs
end
mutual
def yDy0 (K : PySem.W.Frag) : Dy → Pv
  | .non => yNon
  | .int i => yInt i
  | .str s => yStr s
  | .tup xs => pTup K (yDys0 K xs)
def yDys0 (K : PySem.W.Frag) : List Dy → List Pv
  | [] => []
  | x :: xs => yDy0 K x :: yDys0 K xs
end
def yDy (K : PySem.W.Frag) (d : Dy) : Pv := ⟨fun S H v => (encDy d).depth ≤ 16 ∧ (yDy0 K d).p S H v, fun l h => ⟨h.1, (yDy0 K d).up l h.2⟩⟩
section
variable {K : PySem.W.Frag}
mutual
theorem dpDy {S : Fz} {H : Hp} : ∀ (x : Dy) (v : V), (yDy0 K x).p S H v → Dp K H v (encDy x)
  | .non, v, h => by rw [show v = .non from h]; exact .non
  | .int i, v, h => by rw [show v = .int i from h]; exact .int i
  | .str i, v, h => by rw [show v = .str i from h]; exact .str i
  | .tup xs, v, h => by
    obtain ⟨a, vs, e, h1, h2, _⟩ := h
    rw [e]; exact .tup h1 (dpDys xs vs h2)
theorem dpDys {S : Fz} {H : Hp} : ∀ (xs : List Dy) (vs : List V), PsOk S H vs (yDys0 K xs) → DpAll K H vs (encDys xs)
  | [], [], _ => .nil
  | [], _ :: _, h => False.elim h
  | _ :: _, [], h => False.elim h
  | x :: xs, v :: vs, h => .cons (dpDy x v h.1) (dpDys xs vs h.2)
end
mutual
theorem plDy : ∀ x : Dy, (encDy x).plain = true
  | .non => rfl
  | .int _ => rfl
  | .str _ => rfl
  | .tup xs => by rw [encDy, PyData.plain]; exact plDys xs
theorem plDys : ∀ xs : List Dy, PyData.plainAll (encDys xs) = true
  | [] => rfl
  | x :: xs => by rw [encDys, PyData.plainAll, plDy x, plDys xs]; rfl
end
mutual
theorem eqDy : ∀ x y : Dy, PyData.eqv (encDy x) (encDy y) = true ↔ x = y
  | .non, .non => by simp [encDy, PyData.eqv]
  | .int i, .int j => by simp [encDy, PyData.eqv]
  | .str i, .str j => by simp [encDy, PyData.eqv]
  | .tup xs, .tup ys => by rw [encDy, encDy, PyData.eqv, eqDys xs ys]; simp
  | .non, .int _ => by simp [encDy, PyData.eqv]
  | .non, .str _ => by simp [encDy, PyData.eqv]
  | .non, .tup _ => by simp [encDy, PyData.eqv]
  | .int _, .non => by simp [encDy, PyData.eqv]
  | .int _, .str _ => by simp [encDy, PyData.eqv]
  | .int _, .tup _ => by simp [encDy, PyData.eqv]
  | .str _, .non => by simp [encDy, PyData.eqv]
  | .str _, .int _ => by simp [encDy, PyData.eqv]
  | .str _, .tup _ => by simp [encDy, PyData.eqv]
  | .tup _, .non => by simp [encDy, PyData.eqv]
  | .tup _, .int _ => by simp [encDy, PyData.eqv]
  | .tup _, .str _ => by simp [encDy, PyData.eqv]
theorem eqDys : ∀ xs ys : List Dy, PyData.eqvAll (encDys xs) (encDys ys) = true ↔ xs = ys
  | [], [] => by simp [encDys, PyData.eqvAll]
  | [], _ :: _ => by simp [encDys, PyData.eqvAll]
  | _ :: _, [] => by simp [encDys, PyData.eqvAll]
  | x :: xs, y :: ys => by rw [encDys, encDys, PyData.eqvAll, Bool.and_eq_true, eqDy x y, eqDys xs ys]; simp
end
instance : Dat K (yDy K) := ⟨encDy, fun x S H v h => dpDy x v h.2, plDy, 16, fun x S H v h => h.1, eqDy⟩
end
/-! into it -/
class ToDy (K : PySem.W.Frag) {α : Type} (t : α → Pv) where
  to : α → Dy
  n : Nat
  dep : ∀ x, (encDy (to x)).depth ≤ n
  ok : ∀ x S H v, (t x).p S H v → (yDy0 K (to x)).p S H v
section
variable {K : PySem.W.Frag} {α β γ : Type} {t : α → Pv} {u : β → Pv} {w : γ → Pv}
instance : ToDy K yInt := ⟨Dy.int, 1, fun _ => by simp [encDy, PyData.depth], fun _ _ _ _ h => h⟩
instance : ToDy K yStr := ⟨Dy.str, 1, fun _ => by simp [encDy, PyData.depth], fun _ _ _ _ h => h⟩
theorem todys [D : ToDy K t] {S : Fz} {H : Hp} : ∀ {vs : List V} {xs : List α}, PsOk S H vs (xs.map t) → PsOk S H vs (yDys0 K (xs.map D.to))
  | [], [], _ => trivial
  | [], _ :: _, h => False.elim h
  | _ :: _, [], h => False.elim h
  | v :: vs, x :: xs, h => ⟨D.ok x S H v h.1, todys h.2⟩
theorem todeps [D : ToDy K t] : ∀ xs : List α, PyData.depthAll (encDys (xs.map D.to)) ≤ D.n
  | [] => by simp [encDys, PyData.depthAll]
  | x :: xs => by rw [List.map_cons, encDys, PyData.depthAll]; have := D.dep x; have := todeps xs; omega
instance [D : ToDy K t] : ToDy K (fun xs : List α => yTup K t xs) := ⟨fun xs => .tup (xs.map D.to), D.n + 1, fun xs => by rw [encDy, PyData.depth]; have := todeps (K := K) (t := t) xs; omega, fun xs S H v ⟨a, vs, e, h1, h2, h3⟩ => ⟨a, vs, e, h1, todys h2, h3⟩⟩
instance [D : ToDy K t] [D' : ToDy K u] : ToDy K (yPr K t u) := ⟨fun x => .tup [D.to x.1, D'.to x.2], max D.n D'.n + 1, fun x => by
  simp only [encDy, encDys, PyData.depth, PyData.depthAll]; have := D.dep x.1; have := D'.dep x.2; omega, fun x S H v ⟨a, vs, e, h1, h2, h3⟩ => by
  match vs, h2 with
  | [v1, v2], h2 => exact ⟨a, _, e, h1, ⟨D.ok _ _ _ _ h2.1, D'.ok _ _ _ _ h2.2.1, trivial⟩, h3⟩⟩
instance [D : ToDy K t] [D' : ToDy K u] [D2 : ToDy K w] : ToDy K (yTr K t u w) := ⟨fun x => .tup [D.to x.1, D'.to x.2.1, D2.to x.2.2], max D.n (max D'.n D2.n) + 1, fun x => by
  simp only [encDy, encDys, PyData.depth, PyData.depthAll]; have := D.dep x.1; have := D'.dep x.2.1; have := D2.dep x.2.2; omega, fun x S H v ⟨a, vs, e, h1, h2, h3⟩ => by
  match vs, h2 with
  | [v1, v2, v3], h2 => exact ⟨a, _, e, h1, ⟨D.ok _ _ _ _ h2.1, D'.ok _ _ _ _ h2.2.1, D2.ok _ _ _ _ h2.2.2.1, trivial⟩, h3⟩⟩
end
end Mi
namespace Sl
open PySem PySem.Spec PyProof.Rows L2
/-! ### t[::-1] -/
end Sl
namespace Mi
open PySem PySem.Spec PyProof.Rows L2
end Mi
namespace Mi
open PySem PySem.Spec PyProof.Rows L2
section
variable {ρ : Type} {A : Nat → Addr} {E : L2.St → XK} {K : PySem.W.Frag} {Γ : Ctx} {c : Res ρ} {κ : Ctx → Vo → Res ρ → Prop} {α β : Type} {t : α → Pv} {te td : TE} {i : Nat}
/-- xs[i], xs one's own, where the index changes other things -/
theorem wx_ixOwn {b : Bool} {O0 : Ow} (t : α → Pv) (hg0 : Γ[i]? = some (.own b O0)) (h : WX A E Γ td c fun Γ2 V c2 => ∃ (b' : Bool) (j : Int) (xs : List α) (k : α → Res ρ), V = .val (yInt j) ∧ Γ2[i]? = some (.own b' (wLst K t xs)) ∧ c2 = (pidx xs j).bind k ∧ ∀ x, κ Γ2 (.val (t x)) (k x)) : WX A E Γ (tOp (rIxL K) (tVar i) td) c κ := fun F T S σ H Q O R hc kk => by
  obtain ⟨a, o, e1, e2, _⟩ := R.own i _ _ hg0
  refine ⟨.ref a, e1, h F T S σ H _ O R hc fun Γ2 V c2 ⟨b', j, xs, k, ev, hg, ec, hk⟩ S2 H2 v R2 l2 p2 hc2 => ?_⟩
  subst ev; subst ec
  obtain ⟨a', o', f1, f2, ⟨vs, f3, f4, f5⟩, _⟩ := R2.own i _ _ hg
  rw [e1] at f1
  cases f1
  subst f3
  obtain ⟨x, hx, hT⟩ := pidx_of O.nb hc2
  obtain ⟨w, ew, hp⟩ := atI_of f4 (atI_map (f := t) hx)
  exact ⟨a, vs, j, w, rfl, p2, .inl (.inl f2), ew, kk _ _ _ (hk x) S2 H2 _ R2 l2 hp hT⟩
end
end Mi
namespace Sl
open PySem PySem.Spec PyProof.Rows L2 Mi
def Src2 (l : List Int) : Prop := ∃ n c, l = [n, c]
theorem rng_len {a : Int} {n : Nat} : (rng a n).length = n := by simp [rng]
theorem pcut_sub {α : Type} {xs : List α} {a b : Option Int} : (pcut xs a b).Sublist xs := (List.take_sublist ..).trans (List.drop_sublist ..)
theorem nodup_le {α : Type} [DecidableEq α] : ∀ {l m : List α}, l.Nodup → (∀ x ∈ l, x ∈ m) → l.length ≤ m.length
  | [], _, _, _ => Nat.zero_le _
  | x :: l, m, h, k => by
    have hx : x ∈ m := k x (List.mem_cons_self ..)
    have h' := List.nodup_cons.mp h
    have := nodup_le (m := m.erase x) h'.2 fun y hy => (List.mem_erase_of_ne fun (e : y = x) => h'.1 (e ▸ hy)).mpr (k y (List.mem_cons_of_mem _ hy))
    rw [List.length_erase_of_mem hx] at this
    have := List.length_pos_of_mem hx
    simp only [List.length_cons]; omega
abbrev Lit := Str × Int
abbrev Cla := List (Str × Int)
abbrev Dict := List (Str × Int)
def vl (d : Dict) (n : Str) : Int := (dlook d n).getD 0
def hv (d : Dict) (c : Cla) : Bool := c.any fun l => decide (vl d l.1 = l.2)
theorem uniq {c : Cla} : c.Pairwise (fun a b => slt a.1 b.1) → ∀ {l m : Lit}, l ∈ c → m ∈ c → l.1 = m.1 → l = m := by
  intro h
  induction c with
  | nil => intro l m hl; simp at hl
  | cons a r ih =>
    intro l m hl hm e
    obtain ⟨h1, h2⟩ := List.pairwise_cons.mp h
    rcases List.mem_cons.mp hl with hl | hl
    · rcases List.mem_cons.mp hm with hm | hm
      · rw [hl, hm]
      · have := h1 m hm
        rw [← hl, e] at this
        exact absurd this (slt_irrefl _)
    · rcases List.mem_cons.mp hm with hm | hm
      · have := h1 l hl
        rw [← hm, e] at this
        exact absurd this (slt_irrefl _)
      · exact ih h2 hl hm e
end Sl
namespace Sl
open PySem PySem.Spec PyProof.Rows L2 Mi
/-! strict total orders, sorting by them -/
structure STot {α : Type} (lt : α → α → Bool) : Prop where
  irr : ∀ a, lt a a = false
  tr : ∀ a b c, lt a b = true → lt b c = true → lt a c = true
  tri : ∀ a b, lt a b = true ∨ a = b ∨ lt b a = true
theorem STot.asym {α : Type} {lt : α → α → Bool} (S : STot lt) {a b : α} (h : lt a b = true) : lt b a = false := by
  cases q : lt b a with
  | false => rfl
  | true => have := S.tr _ _ _ h q; rw [S.irr] at this; cases this
theorem stot_ltT : STot ltT := ⟨fun a => by simp [ltT, slt_irrefl], fun a b c h1 h2 => by simp [ltT] at *; exact slt_trans h1 h2, fun a b => by simp [ltT]; exact slt_tri a b⟩
theorem stot_ltP {α β : Type} [DecidableEq α] [DecidableEq β] {l1 : α → α → Bool} {l2 : β → β → Bool} (S : STot l1) (T : STot l2) : STot (ltP l1 l2) := by
  refine ⟨fun a => by simp [Mi.ltP], fun a b c h1 h2 => ?_, fun a b => ?_⟩
  · unfold Mi.ltP at *
    by_cases e1 : a.1 = b.1
    · rw [if_pos e1] at h1
      by_cases e2 : b.1 = c.1
      · rw [if_pos e2] at h2; rw [if_pos (e1.trans e2)]
        by_cases f1 : a.2 = b.2
        · rw [if_pos f1] at h1; cases h1
        · by_cases f2 : b.2 = c.2
          · rw [if_pos f2] at h2; cases h2
          · rw [if_neg f1] at h1; rw [if_neg f2] at h2
            have := T.tr _ _ _ h1 h2
            rw [if_neg fun z => by rw [z, T.irr] at this; cases this]; exact this
      · rw [if_neg e2] at h2; rw [if_neg fun z => e2 (e1.symm.trans z), e1]; exact h2
    · rw [if_neg e1] at h1
      by_cases e2 : b.1 = c.1
      · rw [if_neg fun z => e1 (z.trans e2.symm), ← e2]; exact h1
      · rw [if_neg e2] at h2
        have := S.tr _ _ _ h1 h2
        rw [if_neg fun z => by rw [z, S.irr] at this; cases this]; exact this
  · unfold Mi.ltP
    by_cases e1 : a.1 = b.1
    · rw [if_pos e1, if_pos e1.symm]
      by_cases f1 : a.2 = b.2
      · exact .inr (.inl (Prod.ext e1 f1))
      · rw [if_neg f1, if_neg fun z => f1 z.symm]
        exact (T.tri a.2 b.2).imp id fun h => h.elim (fun z => absurd z f1) .inr
    · rw [if_neg e1, if_neg fun z => e1 z.symm]
      exact (S.tri a.1 b.1).imp id fun h => h.elim (fun z => absurd z e1) .inr
section
variable {α : Type} {lt : α → α → Bool} {xs ys : List α}
theorem sortB_perm : (sortB lt xs).Perm xs := List.mergeSort_perm ..
theorem mem_sortB {x : α} : x ∈ sortB lt xs ↔ x ∈ xs := sortB_perm.mem_iff
theorem sortB_len : (sortB lt xs).length = xs.length := sortB_perm.length_eq
theorem sortB_pw (S : STot lt) : (sortB lt xs).Pairwise fun a b => lt b a = false := by
  have := List.pairwise_mergeSort (le := fun a b => !lt b a) (fun a b c h1 h2 => ?_) (fun a b => ?_) xs
  · exact this.imp fun h => by simpa using h
  · simp only [Bool.not_eq_true'] at h1 h2 ⊢
    cases q : lt c a with
    | false => rfl
    | true =>
      rcases S.tri a b with h | h | h
      · have := S.tr _ _ _ q h; rw [this] at h2; cases h2
      · subst h; rw [q] at h2; cases h2
      · rw [h] at h1; cases h1
  · cases q : lt b a
    · rfl
    · rw [S.asym q]; rfl
theorem sortB_asc (S : STot lt) (h : xs.Nodup) : (sortB lt xs).Pairwise fun a b => lt a b = true :=
  List.Pairwise.imp₂ (fun a b h1 h2 => (S.tri a b).resolve_right fun z => z.elim h2 fun z => by rw [z] at h1; cases h1) (sortB_pw S) (sortB_perm.nodup_iff.mpr h)
/-- ascending lists of the same items are one -/
theorem asc_ext (S : STot lt) : ∀ {xs ys : List α}, xs.Pairwise (fun a b => lt a b = true) → ys.Pairwise (fun a b => lt a b = true) → (∀ x, x ∈ xs ↔ x ∈ ys) → xs = ys
  | [], [], _, _, _ => rfl
  | [], y :: ys, _, _, h => nomatch (h y).mpr (List.mem_cons_self ..)
  | x :: xs, [], _, _, h => nomatch (h x).mp (List.mem_cons_self ..)
  | x :: xs, y :: ys, h1, h2, h => by
    have a1 := List.pairwise_cons.mp h1
    have a2 := List.pairwise_cons.mp h2
    have e : x = y := by
      rcases List.mem_cons.mp ((h x).mp (List.mem_cons_self ..)) with e | m1
      · exact e
      · rcases List.mem_cons.mp ((h y).mpr (List.mem_cons_self ..)) with e | m2
        · exact e.symm
        · have q1 := a1.1 y m2
          have q2 := a2.1 x m1
          rw [S.asym q1] at q2; cases q2
    subst e
    have ni : ∀ {l : List α}, (∀ z ∈ l, lt x z = true) → x ∉ l := fun hl z => by have := hl x z; rw [S.irr] at this; cases this
    rw [asc_ext S a1.2 a2.2 fun z => ⟨fun hz => ((List.mem_cons.mp ((h z).mp (List.mem_cons_of_mem _ hz))).resolve_left fun e => ni a1.1 (e ▸ hz)), fun hz => ((List.mem_cons.mp ((h z).mpr (List.mem_cons_of_mem _ hz))).resolve_left fun e => ni a2.1 (e ▸ hz))⟩]
theorem sortB_congr (S : STot lt) (h1 : xs.Nodup) (h2 : ys.Nodup) (h : ∀ x, x ∈ xs ↔ x ∈ ys) : sortB lt xs = sortB lt ys := asc_ext S (sortB_asc S h1) (sortB_asc S h2) fun x => by rw [mem_sortB, mem_sortB, h]
end
theorem psortB_ok {α : Type} {lt : α → α → Bool} {gd : α → Bool} {xs : List α} : psortB lt gd xs = .ok (sortB lt xs) := rfl
/-! the least clauses -/
end Sl
namespace Sl
open PySem PySem.Spec PyProof.Rows L2
/-! ### dicts keyed by tuples of any depth -/
abbrev EnL (L : Type) := List (L × Addr × V)
abbrev EnC (L : Type) := List (L × Addr × Value)
def EntR {L : Type} : EnL L → EnC L → Prop := Paired fun p q => p.1 = q.1 ∧ p.2.1 = q.2.1 ∧ RelV p.2.2 q.2.2
def dNφ {P : Program} {w : World} {L : Type} [DecidableEq L] (κd : PySem.HeapKind P w L) (a : Addr) (xs : EnL L) (h : Heap) : Prop :=
  (a == sysModules) = false ∧ ∃ (ys : EnC L) (ob : Obj) (es : Array DictEntry) (ep : Nat), EntR xs ys ∧ h.get? a = some ob ∧ ob.ExactDict ∧ ob.data = .dict es ep ∧ es.toList = ys.map (fun y => ⟨κd.hash y.1, .ref y.2.1, y.2.2⟩) ∧ (ys.map (·.1)).Nodup
abbrev dN {P : Program} {w : World} {L : Type} [DecidableEq L] (κd : PySem.HeapKind P w L) (a : Addr) (xs : EnL L) : HO := .ext (dNφ κd a xs)
def lookN {L : Type} [DecidableEq L] (xs : EnL L) (k : L) : Option V := (xs.find? fun e => decide (e.1 = k)).map (·.2.2)
def putN {L : Type} [DecidableEq L] (xs : EnL L) (k : L) (b : Addr) (v : V) : EnL L := if (lookN xs k).isSome = true then xs.map fun e => if e.1 = k then (e.1, e.2.1, v) else e else xs ++ [(k, b, v)]
/-- what is told of keys holds of the heap's -/
def KeyOk (P : Program) (w : World) (K : PySem.W.Frag) {L : Type} [DecidableEq L] (κd : PySem.HeapKind P w L) (G : Hp → L → V → Prop) : Prop :=
  ∀ (X : Cx), X.prog = P → X.w = w → X.K = K → ∀ (pins : List (Addr × Obj)) (σ : L2.St) (H : Hp) (s : Shared), Inv X pins σ H s → ∀ (k : L) (v : V) (u : Value), G H k v → RelV v u → (∃ b, u = .ref b ∧ κd.is s.heap k b)
section
variable {P : Program} {w : World} {L : Type} [DecidableEq L] {κd : PySem.HeapKind P w L} {G : Hp → L → V → Prop} {K : PySem.W.Frag}
theorem dN_stay {a : Addr} {xs : EnL L} {h1 h2 : Heap} (p : dNφ κd a xs h1) (k : ∀ o, h1.get? a = some o → h2.get? a = some o) : dNφ κd a xs h2 := by
  obtain ⟨q, ys, ob, es, ep, r, g, z⟩ := p
  exact ⟨q, ys, ob, es, ep, r, k _ g, z⟩
theorem dN_ok {Pr : Program} {w' : World} {H : Hp} {h : Heap} {a : Addr} {xs : EnL L} (p : dNφ κd a xs h) : ObjOk Pr w' H h a (dN κd a xs) := by
  refine ⟨p, ?_, fun h1 h2 q k => dN_stay q k⟩
  obtain ⟨_, ys, ob, es, ep, _, g, _⟩ := p
  exact ⟨ob, g⟩
theorem dN_at {Pr : Program} {w' : World} {H : Hp} {h : Heap} {a : Addr} {xs : EnL L} (x : HOk Pr w' H h) (r : Rd H a (dN κd a xs)) : dNφ κd a xs h := (r.ok x).1
/-- the place that it tells is its own -/
theorem dN_eqO {Pr : Program} {w' : World} {H : Hp} {h : Heap} {a b : Addr} {xs : EnL L} (r : ObjOk Pr w' H h a (dN κd b xs)) : b = a := by
  obtain ⟨⟨_, ys, ob, es, ep, _, g, _⟩, ⟨u, gu⟩, st⟩ := id r
  refine Classical.byContradiction fun z => ?_
  have q : dNφ κd b xs (h.update b fun _ => { cls := .type "list", data := .seq #[] }) := st h _ r.1 fun o e => (Heap.get?_update_other _ _ z).trans e
  obtain ⟨_, _, ob', es', ep', _, g', _, hd, _⟩ := q
  rw [Heap.get?_update_self _ g rfl] at g'
  cases g'
  cases hd
theorem dN_eq {Pr : Program} {w' : World} {H : Hp} {h : Heap} {a b : Addr} {xs : EnL L} (x : HOk Pr w' H h) (r : Rd H a (dN κd b xs)) : b = a := dN_eqO (r.ok x)
theorem entR_len {xs : EnL L} {ys : EnC L} (r : EntR xs ys) : xs.length = ys.length := Paired.length r
theorem entR_look {k : L} : ∀ {xs : EnL L} {ys : EnC L}, EntR xs ys → (∀ v, lookN xs k = some v → ∃ b u, atKey ys k = some (b, u) ∧ RelV v u) ∧ (lookN xs k = none → atKey ys k = none)
  | [], _, .nil => ⟨fun v h => by simp [lookN] at h, fun _ => rfl⟩
  | x :: xs, y :: ys, .cons h t => by
    obtain ⟨i1, i2⟩ := entR_look (k := k) t
    by_cases e : x.1 = k
    · have e' : y.1 = k := h.1 ▸ e
      have a1 : lookN (x :: xs) k = some x.2.2 := by simp [lookN, List.find?_cons, e]
      have a2 : atKey (y :: ys) k = some y.2 := by simp [atKey, List.find?_cons, e']
      rw [a1, a2]
      exact ⟨fun v hv => by cases hv; exact ⟨y.2.1, y.2.2, rfl, h.2.2⟩, fun z => by cases z⟩
    · have e' : ¬ y.1 = k := h.1 ▸ e
      have a1 : lookN (x :: xs) k = lookN xs k := by simp [lookN, List.find?_cons, e]
      have a2 : atKey (y :: ys) k = atKey ys k := by simp [atKey, List.find?_cons, e']
      rw [a1, a2]
      exact ⟨i1, i2⟩
theorem entR_some {k : L} {xs : EnL L} {ys : EnC L} (r : EntR xs ys) : (lookN xs k).isSome = (atKey ys k).isSome := by
  obtain ⟨i1, i2⟩ := entR_look (k := k) r
  cases e : lookN xs k with
  | none => rw [i2 e]; rfl
  | some v => obtain ⟨b, u, e', _⟩ := i1 v e; rw [e']; rfl
theorem entR_put {k : L} {b : Addr} {v : V} {u : Value} (hv : RelV v u) {xs : EnL L} {ys : EnC L} (r : EntR xs ys) : EntR (putN xs k b v) (storedH ys k b u) := by
  have q := entR_some (k := k) r
  unfold putN storedH
  by_cases z : (lookN xs k).isSome = true
  · rw [if_pos z, if_pos (q ▸ z)]
    clear q z
    induction r with
    | nil => exact .nil
    | @cons p q ps qs h t ih =>
      refine .cons ?_ ih
      unfold putAt
      by_cases e : p.1 = k
      · have e' : q.1 = k := h.1 ▸ e
        simp only [e, e', if_true]
        exact ⟨trivial, h.2.1, hv⟩
      · have e' : ¬ q.1 = k := h.1 ▸ e
        simp only [e, e', if_false]
        exact h
  · rw [if_neg z, if_neg (q ▸ z)]
    clear q z
    induction r with
    | nil => exact .cons ⟨rfl, rfl, hv⟩ .nil
    | cons h t ih => exact .cons h ih
theorem putN_len {k : L} {b : Addr} {v : V} {xs : EnL L} : (putN xs k b v).length ≤ xs.length + 1 := by
  unfold putN
  split
  · rw [List.length_map]; omega
  · rw [List.length_append]; simp
/-- the library's dict -/
theorem dN_of {X : Cx} {pins : List (Addr × Obj)} {σ : L2.St} {H : Hp} {s : Shared} {a : Addr} {xs : EnL L} (eP : X.prog = P) (ew : X.w = w) (eK : X.K = K) (hG : KeyOk P w K κd G) (h7 : ∀ A : Around, A.units + 8 < cLine → κd.room A) (I : Inv X pins σ H s) (r0 : Rd H a (dN κd a xs)) (ks : ∀ e ∈ xs, G H e.1 (.ref e.2.1)) :
    (a == sysModules) = false ∧ ∃ ys : EnC L, EntR xs ys ∧ s.heap.DictOfH (κd) a ys := by
  obtain ⟨q, ys, ob, es, ep, r, g, hx, hd, he, hn⟩   := dN_at I.hok r0
  refine ⟨q, ys, r, ob, es, ep, g, hx, hd, he, fun y hy => ?_, hn⟩
  obtain ⟨j, hj⟩ := List.mem_iff_getElem?.mp hy
  obtain ⟨x, hxj, h1, h2, _⟩ : ∃ x, xs[j]? = some x ∧ x.1 = y.1 ∧ x.2.1 = y.2.1 ∧ RelV x.2.2 y.2.2 := by
    clear ks he hn hy g
    clear r0
    induction r generalizing j with
    | nil => simp at hj
    | @cons p q ps qs h t ih =>
      cases j with
      | zero => simp only [List.getElem?_cons_zero, Option.some.injEq] at hj; subst hj; exact ⟨p, rfl, h⟩
      | succ j => exact ih j (by simpa using hj)
  have := hG X eP ew eK pins σ H s I x.1 (.ref x.2.1) (.ref x.2.1) (ks x (List.mem_of_getElem? hxj)) rfl
  rw [h1, h2] at this
  obtain ⟨b, eb, hb⟩ := this
  cases eb
  exact hb
theorem key_at {X : Cx} {pins : List (Addr × Obj)} {σ : L2.St} {H : Hp} {s : Shared} {k : L} {y : V} {u : Value} (eP : X.prog = P) (ew : X.w = w) (eK : X.K = K) (hG : KeyOk P w K κd G) (h7 : ∀ A : Around, A.units + 8 < cLine → κd.room A) (I : Inv X pins σ H s) (g : G H k y) (r : RelV y u) : ∃ b, u = .ref b ∧ y = .ref b ∧ (κd).is s.heap k b := by
  have t := hG X eP ew eK pins σ H s I k y u g r
  obtain ⟨b, e, hb⟩ := t
  subst e
  have ey : y = .ref b := by
    cases y with
    | ref c => cases (show Value.ref b = Value.ref c from r); rfl
    | _ => first | (cases r; done) | (obtain ⟨_, r⟩ := r; cases r; done) | (unfold RelV at r; simp at r)
  exact ⟨b, rfl, ey, hb⟩
/-! d[k], k in d, d[k] = v, {} -/
def tDGetN (κd : PySem.HeapKind P w L) (G : Hp → L → V → Prop) (td ty : TE) : TE := fun σ H Q => td σ H fun x H1 => ty σ H1 fun y H2 => ∃ a c xs k v, x = .ref a ∧ Rd H2 a (dN κd c xs) ∧ (∀ e ∈ xs, G H2 e.1 (.ref e.2.1)) ∧ G H2 k y ∧ lookN xs k = some v ∧ Q v H2
def tDInN (κd : PySem.HeapKind P w L) (G : Hp → L → V → Prop) (ty td : TE) : TE := fun σ H Q => ty σ H fun y H1 => td σ H1 fun x H2 => ∃ a c xs k, x = .ref a ∧ Rd H2 a (dN κd c xs) ∧ (∀ e ∈ xs, G H2 e.1 (.ref e.2.1)) ∧ G H2 k y ∧ Q (.bl (lookN xs k).isSome) H2
def tDNinN (κd : PySem.HeapKind P w L) (G : Hp → L → V → Prop) (ty td : TE) : TE := fun σ H Q => ty σ H fun y H1 => td σ H1 fun x H2 => ∃ a c xs k, x = .ref a ∧ Rd H2 a (dN κd c xs) ∧ (∀ e ∈ xs, G H2 e.1 (.ref e.2.1)) ∧ G H2 k y ∧ Q (.bl (!(lookN xs k).isSome)) H2
def sDPutN (κd : PySem.HeapKind P w L) (G : Hp → L → V → Prop) (td ty tv : TE) : TS := fun D σ H => tv σ H fun v H1 => td σ H1 fun x H2 => ty σ H2 fun y H3 => ∃ a c xs k b, x = .ref a ∧ y = .ref b ∧ H3 a = some (dN κd c xs) ∧ (∀ e ∈ xs, G H3 e.1 (.ref e.2.1)) ∧ G H3 k y ∧ xs.length < sizeLine ∧ D.nx σ (upd H3 a (dN κd c (putN xs k b v)))
def tDNewN (κd : PySem.HeapKind P w L) : TE := fun _ H Q => ∀ p, H p = none → Q (.ref p) (upd H p (dN κd p []))
variable {X : Cx} {o i e value : Expr} {pos pos' : Pos} {td ty tv : TE}
theorem pe_dgetN (κd : PySem.HeapKind P w L) (eP : X.prog = P) (ew : X.w = w) (eK : X.K = K) (hG : KeyOk P w K κd G) (h7 : ∀ A : Around, A.units + 8 < cLine → κd.room A) (hu : X.A.units + 64 < cLine) (ho : PE X o td) (hi : PE X i ty) (hs : NoSl i) : PE X (.Subscript o i pos) (tDGetN κd G td ty) := by
  refine ⟨fun pins s σ H Q I h => subD_of PySem.F.slot_dict_getitem.lookup hs (thn (ho.run pins s σ H _ I h) fun u s1 ⟨x, H1, I1, rx, q1⟩ => thn (hi.run pins s1 σ H1 _ I1 q1) fun iv s2 ⟨y, H2, I2, ry, a, c, xs, k, v, ex, g, gk, gy, l, q2⟩ => ?_)⟩
  subst ex
  obtain rfl := (dN_eq I2.hok g).symm
  obtain rfl : u = Value.ref a := rx
  obtain ⟨hm, ys, r, dd⟩ := dN_of eP ew eK hG h7 I2 g gk
  obtain ⟨b, e1, e2, hk⟩ := key_at eP ew eK hG h7 I2 gy ry
  subst e1
  obtain ⟨b', u', hat, rv⟩ := (entR_look r).1 v l
  subst eP ew
  exact ⟨dd.typeIs, wpAny_getItem_heap (h7 X.A.in1 (by show X.A.units + 1 + 8 < cLine; omega)) hk dd hat ⟨v, H2, I2.tok _, rv, q2⟩⟩
theorem pc_dinN (κd : PySem.HeapKind P w L) (eP : X.prog = P) (ew : X.w = w) (eK : X.K = K) (hG : KeyOk P w K κd G) (h7 : ∀ A : Around, A.units + 8 < cLine → κd.room A) (hu : X.A.units + 64 < cLine) (hi : PE X i ty) (ho : PE X o td) : PC X .In i o (tDInN κd G ty td) := by
  refine ⟨fun pins s σ H Q I h => thn (hi.run pins s σ H _ I h) fun iv s1 ⟨y, H1, I1, ry, q1⟩ => thn (ho.run pins s1 σ H1 _ I1 q1) fun u s2 ⟨x, H2, I2, rx, a, c, xs, k, ex, g, gk, gy, q2⟩ => ?_⟩
  subst ex
  obtain rfl := (dN_eq I2.hok g).symm
  obtain rfl : u = Value.ref a := rx
  have ry' := ry
  obtain ⟨hm, ys, r, dd⟩ := dN_of eP ew eK hG h7 I2 g gk
  obtain ⟨b, e1, e2, hk⟩ := key_at eP ew eK hG h7 I2 gy ry
  subst e1
  have q := entR_some (k := k) r
  subst eP ew
  refine wpAny_in_heap (h7 X.A.in1 (by show X.A.units + 1 + 8 < cLine; omega)) hk hm dd ?_
  rw [← q]
  exact ⟨.bl (lookN xs k).isSome, H2, I2.tok _, rfl, q2⟩
theorem pc_dninN (κd : PySem.HeapKind P w L) (eP : X.prog = P) (ew : X.w = w) (eK : X.K = K) (hG : KeyOk P w K κd G) (h7 : ∀ A : Around, A.units + 8 < cLine → κd.room A) (hu : X.A.units + 64 < cLine) (hi : PE X i ty) (ho : PE X o td) : PC X .NotIn i o (tDNinN κd G ty td) := by
  refine ⟨fun pins s σ H Q I h => thn (hi.run pins s σ H _ I h) fun iv s1 ⟨y, H1, I1, ry, q1⟩ => thn (ho.run pins s1 σ H1 _ I1 q1) fun u s2 ⟨x, H2, I2, rx, a, c, xs, k, ex, g, gk, gy, q2⟩ => ?_⟩
  subst ex
  obtain rfl := (dN_eq I2.hok g).symm
  obtain rfl : u = Value.ref a := rx
  obtain ⟨hm, ys, r, dd⟩ := dN_of eP ew eK hG h7 I2 g gk
  obtain ⟨b, e1, e2, hk⟩ := key_at eP ew eK hG h7 I2 gy ry
  subst e1
  have q := entR_some (k := k) r
  subst eP ew
  refine wpAny_notIn_heap (h7 X.A.in1 (by show X.A.units + 1 + 8 < cLine; omega)) hk hm dd ?_
  rw [← q]
  exact ⟨.bl (!(lookN xs k).isSome), H2, I2.tok _, rfl, q2⟩
theorem dN_new {s : Shared} {pins : List (Addr × Obj)} {σ : L2.St} {H : Hp} (κd : PySem.HeapKind P w L) (I : Inv X pins σ H s) : dNφ κd s.heap.objs.size [] (s.heap.push { cls := .type "dict", data := .dict #[] }) :=
  ⟨beq_eq_false_iff_ne.mpr (Ne.symm (Nat.ne_of_lt I.big)), [], _, #[], 0, .nil, Heap.get?_push_size _ rfl, ⟨rfl, rfl, rfl⟩, rfl, rfl, List.nodup_nil⟩
theorem pe_dnewN (κd : PySem.HeapKind P w L) : PE X (.Dict [] [] pos) (tDNewN κd) := ⟨fun pins s σ H Q I h =>
  wpAny_Dict_empty ⟨.ref s.heap.objs.size, _, I.laid (t' := s.toks) (fun _ _ q => Heap.get?_push_of_some _ q) (Nat.le_refl _) (dN_ok (dN_new κd I)), rfl, h _ (I.hok.fresh (Nat.le_refl _))⟩⟩
theorem set_dN {s : Shared} {pins : List (Addr × Obj)} {σ : L2.St} {H : Hp} {a : Addr} {xs : EnL L} {k : L} {y v : V} {u r : Value} {A : Around} {E : Value → Shared → Prop} {Q : Unit → Shared → Prop} (eP : X.prog = P) (ew : X.w = w) (eK : X.K = K) (hG : KeyOk P w K κd G) (h7 : ∀ A : Around, A.units + 8 < cLine → κd.room A) (hu : A.units + 1 + 8 < cLine) (I : Inv X pins σ H s)
    (g : H a = some (dN κd a xs)) (gk : ∀ e ∈ xs, G H e.1 (.ref e.2.1)) (gy : G H k y) (ry : RelV y u) (rv : RelV v r) (hl : xs.length < sizeLine)
    (h : ∀ b s', y = .ref b → Inv X pins σ (upd H a (dN κd a (putN xs k b v))) s' → Q () s') : wpAny (model X.prog X.w) A (setItem (.ref a) u r) Q E s := by
  obtain ⟨hm, ys, rel, dd⟩ := dN_of eP ew eK hG h7 I (.inl g) gk
  obtain ⟨b, e1, e2, hk⟩ := key_at eP ew eK hG h7 I gy ry
  subst e1
  have ln : ys.length ≤ sizeLine := by rw [← entR_len rel]; exact Nat.le_of_lt hl
  subst eP ew
  refine wpAny_setItem_heap (hsz := ln) (h7 A.in1 hu) hk dd fun h' d' sb => h b _ e2 ?_
  obtain ⟨ob, es, ep, g', hx, hd, he, _, hn⟩ := d'
  exact d_write I (by rw [g]; exact True.intro) sb ⟨_, g'⟩ (dN_ok ⟨hm, storedH ys k b r, ob, es, ep, entR_put rv rel, g', hx, hd, he, hn⟩)
theorem ps_dputN (κd : PySem.HeapKind P w L) (eP : X.prog = P) (ew : X.w = w) (eK : X.K = K) (hG : KeyOk P w K κd G) (h7 : ∀ A : Around, A.units + 8 < cLine → κd.room A) (hu : X.A.units + 64 < cLine) (ho : PE X o td) (hi : PE X i ty) (hv : PE X value tv) (hs : swapsWith value (some (.Subscript o i pos')) pos.line X.env = pure false) :
    PS X (.Assign [.Subscript o i pos'] value pos) (sDPutN κd G td ty tv) := by
  refine ⟨fun pins s σ H D I h => wpAny_Assign_Subscript (thn (hv.run pins s σ H _ I h) fun r s1 ⟨v, H1, I1, rv, q1⟩ => thn (ho.run pins s1 σ H1 _ I1 q1) fun u s2 ⟨x, H2, I2, rx, q2⟩ => thn (hi.run pins s2 σ H2 _ I2 q2) fun iv s3 ⟨y, H3, I3, ry, a, c, xs, k, b, ex, ey, g, gk, gy, hl, q3⟩ => ?_) hs⟩
  subst ex
  obtain rfl := (dN_eq I3.hok (.inl g)).symm
  obtain rfl : u = Value.ref a := rx
  exact set_dN eP ew eK hG h7 (by omega) I3 g gk gy ry rv hl fun b' s4 e I4 => ⟨σ, _, I4, by rw [ey] at e; cases e; exact q3⟩
/-! for k in d -/
def ItN (κd : PySem.HeapKind P w L) (d c : Addr) (o : Obj) (xs : EnL L) : It :=
  ⟨fun i H => H d = some (.frz o (dN κd c xs)) ∧ i < xs.length, fun i H x H' => H' = H ∧ ∃ e, xs[i]? = some e ∧ x = .ref e.2.1, fun i H => H d = some (.frz o (dN κd c xs)) ∧ xs.length ≤ i⟩
theorem frzN {pins : List (Addr × Obj)} {σ : L2.St} {H : Hp} {s : Shared} {d c : Addr} {ob : Obj} {xs : EnL L} (I : Inv X pins σ H s) (h : H d = some (.frz ob (dN κd c xs))) : (d == sysModules) = false ∧ s.heap.get? d = some ob ∧ ob.ExactDict ∧ ∃ (es : Array DictEntry) (ep : Nat), ob.data = .dict es ep ∧ es.size = xs.length ∧
    ∀ (i : Nat) e, xs[i]? = some e → ∃ en : DictEntry, es[i]? = some en ∧ en.key = .ref e.2.1 := by
  have h0 := I.hok d _ h
  obtain ⟨hd, p⟩ := h0
  obtain rfl := (dN_eqO p).symm
  obtain ⟨hs, ys, ob', es, ep, r, g, hx, hdt, he, hnd⟩ := p.1
  rw [hd] at g
  cases g
  have ln : es.size = ys.length := by rw [← Array.length_toList, he, List.length_map]
  refine ⟨hs, hd, hx, es, ep, hdt, by rw [ln, entR_len r], fun i e hi => ?_⟩
  obtain ⟨y, hy, h1, h2, _⟩ : ∃ y, ys[i]? = some y ∧ e.1 = y.1 ∧ e.2.1 = y.2.1 ∧ RelV e.2.2 y.2.2 := by
    clear he ln p h hnd
    induction r generalizing i with
    | nil => simp at hi
    | @cons p q ps qs h t ih =>
      cases i with
      | zero => simp only [List.getElem?_cons_zero, Option.some.injEq] at hi; subst hi; exact ⟨q, rfl, h⟩
      | succ i => exact ih i (by simpa using hi)
  refine ⟨⟨κd.hash y.1, .ref y.2.1, y.2.2⟩, ?_, by rw [h2]⟩
  rw [← Array.getElem?_toList, he, List.getElem?_map, hy]; rfl
/-- the keys of a dict that stands, one after another: what the library says of a step (KE.KDictWalk), as a turn -/
theorem turn_raw {Pr : Program} {w' : World} {tg : Expr} {J : It} {it d : Addr} {es : Array DictEntry} {ep : Nat}
    (go : ∀ (X : Cx) (pins : List (Addr × Obj)) (σ : L2.St) (H : Hp) (s : Shared) (i : Nat), X.prog = Pr → X.w = w' → Inv X pins σ H s → J.go i H → s.heap.DictRaw d es ep ∧ ∃ x, ∃ lt : i < es.size, RelV x es[i].key ∧ J.yld i H x H)
    (stop : ∀ (X : Cx) (pins : List (Addr × Obj)) (σ : L2.St) (H : Hp) (s : Shared) (i : Nat), X.prog = Pr → X.w = w' → Inv X pins σ H s → J.stop i H → s.heap.DictRaw d es ep ∧ es.size ≤ i) :
    Turn Pr w' K tg J [it] it (fun i h => h.IsKeyIter it d i es.size ep) := by
  have here : ∀ {i h}, Heap.IsKeyIter h it d i es.size ep → ∃ o n vs, h.get? it = some o ∧ o.cls = .type n ∧ o.data = .fields vs ∧ n = "dict_keyiterator" := fun st => by
    obtain ⟨o, a, b, c⟩ := st
    exact ⟨o, _, _, a, b, c, rfl⟩
  have one : ∀ {b : Addr}, b ∈ [it] → b = it := fun h => List.mem_singleton.mp h
  constructor
  case mem => exact List.mem_singleton.mpr rfl
  case obj =>
    intro i h st b hb
    obtain ⟨o, n, vs, e1, _, e3, _⟩ := here st
    exact ⟨o, one hb ▸ e1, fun v => by rw [e3]; exact nofun⟩
  case keep => exact fun i h h' st same => st.at fun o e => same it (List.mem_singleton.mpr rfl) o e
  case self => exact fun A i s Q E st q => wpAny_pyIter_keyiter st q
  case item =>
    intro X e1 e2 _ _ i pins s σ H E I own st g
    obtain ⟨raw, x, lt, rx, y⟩ := go X pins σ H s i e1 e2 I g
    obtain ⟨n0, nl, _, ne, nc, np⟩ := own it (List.mem_singleton.mpr rfl)
    subst e1 e2
    refine wpAny_pyNext_keys_item_raw st raw lt fun h' st' same => ⟨_, rfl, ?_⟩
    obtain ⟨o, n, vs, g1, g2, g3, rfl⟩ := here st'
    refine go_of g1 g2 g3 (by decide) ⟨x, H, ?_, rx, y, st', fun b hb => one hb ▸ n0⟩
    exact I.turned (t' := s.toks) (fun b z hb e => (same.2 b hb).trans e) n0 nl ne nc np
  case done =>
    intro X e1 e2 _ calm i pins s σ H E I own st g
    obtain ⟨raw, ge⟩ := stop X pins σ H s i e1 e2 I g
    obtain ⟨n0, nl, _, ne, nc, np⟩ := own it (List.mem_singleton.mpr rfl)
    subst e1 e2
    exact wpAny_pyNext_keys_end_raw (I.ok.hd calm) st raw ge fun h' ext => ⟨rfl, I.turned (t' := s.toks) (fun b z hb e => ext b z hb e) n0 nl ne nc np⟩
theorem turnN {tg : Expr} {d c : Addr} {ob : Obj} {es : Array DictEntry} {ep : Nat} {Pr : Program} {w' : World} {xs : EnL L} (it : Addr) (hod : ob.data = .dict es ep) (sz : es.size = xs.length) : Turn Pr w' K tg (ItN κd d c ob xs) [it] it (fun i h => h.IsKeyIter it d i es.size ep) := by
  have at_ : ∀ (X : Cx) (pins : List (Addr × Obj)) (σ : L2.St) (H : Hp) (s : Shared), Inv X pins σ H s → H d = some (.frz ob (dN κd c xs)) → s.heap.DictRaw d es ep ∧ ∀ i e, xs[i]? = some e → ∃ lt : i < es.size, es[i].key = .ref e.2.1 := fun X pins σ H s I h => by
    obtain ⟨_, g, ex, es2, ep2, dat, _, ent⟩ := frzN I h
    obtain ⟨rfl, rfl⟩ := dict_ep hod dat
    refine ⟨⟨ob, g, ex, hod⟩, fun i e hi => ?_⟩
    obtain ⟨en, h1, h2⟩ := ent i e hi
    obtain ⟨lt, h3⟩ := Array.getElem?_eq_some_iff.mp h1
    exact ⟨lt, by rw [h3]; exact h2⟩
  refine turn_raw (fun X pins σ H s i _ _ I g => ?_) fun X pins σ H s i _ _ I g => ⟨(at_ X pins σ H s I g.1).1, sz ▸ g.2⟩
  obtain ⟨raw, key⟩ := at_ X pins σ H s I g.1
  have lx : i < xs.length := g.2
  obtain ⟨lt, e⟩ := key i xs[i] (List.getElem?_eq_getElem lx)
  exact ⟨raw, .ref xs[i].2.1, lt, e, rfl, xs[i], List.getElem?_eq_getElem lx, rfl⟩
def iKeysN (κd : PySem.HeapKind P w L) (td : TE) : TI := fun σ H R => td σ H fun x H1 => ∃ d c ob xs, x = .ref d ∧ H1 d = some (.frz ob (dN κd c xs)) ∧ R (ItN κd d c ob xs) H1
theorem pi_keysN {tg : Expr} (κd : PySem.HeapKind P w L) (he : PE X e td) : PI X tg e (iKeysN κd td) := by
  refine ⟨fun pins s σ H R I h => thn (he.run pins s σ H _ I h) fun u s1 ⟨x, H1, I1, rx, d, c, ob, xs, ex, hd, q⟩ => ?_⟩
  subst ex
  obtain rfl : u = Value.ref d := rx
  obtain ⟨hs, hgd, hx, es, ep, hdt, hsz, ent⟩ := frzN I1 hd
  refine iter_keys hs hgd hx hdt (pi_one (tk := s1.toks) I1 _ (turnN _ hdt hsz) ⟨_, Heap.get?_push_size _ rfl, rfl, rfl⟩ q)
/-! list(d), len(d) -/
def rListN (κd : PySem.HeapKind P w L) : List V → Hp → VK → Prop := fun vs H Q => ∃ (a c : Addr) (xs : EnL L), vs = [.ref a] ∧ Rd H a (dN κd c xs) ∧ xs.length ≤ sizeLine ∧ ∀ p, H p = none → Q (.ref p) (upd H p (.lst (xs.map fun e => .ref e.2.1)))
theorem raw_dN {h : Heap} {a : Addr} {xs : EnL L} (p : dNφ κd a xs h) : (a == sysModules) = false ∧ ∃ (ys : EnC L) (es : Array DictEntry) (ep : Nat), EntR xs ys ∧ h.DictRaw a es ep ∧ es.size = xs.length ∧ es.toList = ys.map (fun y => ⟨κd.hash y.1, .ref y.2.1, y.2.2⟩) := by
  obtain ⟨lo, ys, ob, es, ep, r, g, hx, hd, he, _⟩ := p
  refine ⟨lo, ys, es, ep, r, ⟨ob, g, hx, hd⟩, ?_, he⟩
  rw [← Array.length_toList, he, List.length_map, entR_len r]
theorem call_listN (κd : PySem.HeapKind P w L) (eP : X.prog = P) (ew : X.w = w) (hcalm : X.calm = true) : CallR X (.type "list") (rListN κd) := by
  intro pins s σ H vs us Q I r h
  obtain ⟨a, c, xs, rfl, g, hl, q⟩ := h
  obtain rfl := (dN_eq I.hok g).symm
  rw [Vals.ref1 r]
  obtain ⟨lo, ys, es, ep, rel, raw, hz, he⟩ := raw_dN (dN_at I.hok g)
  subst eP ew
  refine PySem.W.kdl_call (PySem.KdlSrc.rawDict lo) (I.ok.hd hcalm) raw (by rw [hz]; exact hl) fun h' tk acc c' hk hD hacc => ?_
  have hn : acc.toList.length = ys.length := by rw [Array.length_toList, hacc.1, hz, entR_len rel]
  have ea : acc.toList = ys.map fun y => Value.ref y.2.1 := by
    refine List.ext_getElem? fun j => ?_
    by_cases hj : j < ys.length
    · have hj' : j < acc.size := by rw [← Array.length_toList, hn]; exact hj
      obtain ⟨hi, e1⟩ := hacc.2 j acc[j] (Array.getElem?_eq_getElem hj')
      have e2 : es.toList[j]? = some es[j] := by rw [Array.getElem?_toList]; exact Array.getElem?_eq_getElem hi
      rw [Array.getElem?_toList, Array.getElem?_eq_getElem hj', e1]
      rw [he, List.getElem?_map, List.getElem?_eq_getElem hj] at e2
      rw [List.getElem?_map, List.getElem?_eq_getElem hj]
      simp only [Option.map_some, Option.some.injEq] at e2 ⊢
      rw [← e2]
    · rw [List.getElem?_eq_none (by rw [hn]; omega), List.getElem?_eq_none (by rw [List.length_map]; omega)]
  have hv : Vals (xs.map fun e => V.ref e.2.1) acc.toList := by
    rw [ea]
    clear ea hn hacc hD he raw
    clear g q hl hz
    induction rel with
    | nil => exact .nil
    | @cons p q ps qs h t ih => exact .cons (show Value.ref q.2.1 = Value.ref p.2.1 by rw [h.2.1]) ih
  refine ⟨.ref s.heap.objs.size, upd H s.heap.objs.size (.lst (xs.map fun e => V.ref e.2.1)), I.laid (t' := tk) hk (Nat.le_refl _)
    (show ObjOk X.prog X.w _ _ _ (.lst _) from ⟨by rw [List.length_map]; exact hl, acc.toList, c', hv, by rw [Array.toArray_toList]; exact hD⟩), rfl, q _ (I.hok.fresh (Nat.le_refl _))⟩
end
end Sl
namespace Mi
open PySem PySem.Spec PyProof.Rows L2
open Sl (isTup sz szl slt EnL)
/-! ### dicts keyed by tuples of any depth -/
abbrev NK := PySem.NestedKey
abbrev VN (P : Program) (w : World) : PySem.HeapKind P w NK := PySem.nestedKind P w
theorem lv7 {P : Program} {w : World} (A : Around) (h : A.units + 8 < cLine) : (VN P w).room A := h
/-- what may be (a part of) a key; n: how deep -/
class NE (K : PySem.W.Frag) {κ : Type} (t : κ → Pv) (n : outParam Nat) where
  enc : κ → NK
  inj : ∀ a b, enc a = enc b → a = b
  dep : ∀ a, (enc a).depth ≤ n
  tup : ∀ a, 0 < n → ∃ ks, enc a = .tup ks
  ok : ∀ (X : Cx), X.K = K → ∀ (pins : List (Addr × Obj)) (σ : L2.St) (H : Hp) (s : Shared), L2.Inv X pins σ H s → ∀ (S : Fz) (x : κ) (v : V) (u : Value), (t x).p S H v → RelV v u → PySem.NestedIs s.heap (enc x) u
variable {K : PySem.W.Frag}
instance : NE K yStr 0 := ⟨.text, fun _ _ e => PySem.NestedKey.text.inj e, fun _ => by simp [PySem.NestedKey.depth], fun _ z => absurd z (Nat.lt_irrefl 0), fun _ _ _ _ _ _ _ _ x _ _ hv hr => by
  cases (show _ = V.str x from hv)
  obtain ⟨k, rfl⟩ := hr
  exact .text x k⟩
instance : NE K yInt 0 := ⟨.num, fun _ _ e => PySem.NestedKey.num.inj e, fun _ => by simp [PySem.NestedKey.depth], fun _ z => absurd z (Nat.lt_irrefl 0), fun _ _ _ _ _ _ _ _ x _ _ hv hr => by
  cases (show _ = V.int x from hv)
  obtain ⟨k, rfl⟩ := hr
  exact .int x k⟩
section
variable {κ κ' : Type} {t : κ → Pv} {u : κ' → Pv} {n : Nat}
/-- a tuple whose items are keys is one -/
theorem tup_key {X : Cx} (eK : X.K = K) {pins : List (Addr × Obj)} {σ : L2.St} {H : Hp} {s : Shared} (I : L2.Inv X pins σ H s) {a : Addr} {vs : List V} (h : SqT K H a vs) {ks : List NK} (g : ∀ us, Vals vs us → PySem.NestedAll s.heap ks us) {z : Value} (r : RelV (.ref a) z) : PySem.NestedIs s.heap (.tup ks) z := by
  subst eK
  obtain ⟨us, hus, ⟨o, go, co, m, dat⟩, _⟩ := I.tuple h
  cases (show z = Value.ref a from r)
  exact .tup go co dat (g us hus)
theorem items_key [N : NE K t n] {X : Cx} (eK : X.K = K) {pins : List (Addr × Obj)} {σ : L2.St} {H : Hp} {s : Shared} (I : L2.Inv X pins σ H s) {S : Fz} (xs : List κ) : ∀ vs us, PsOk S H vs (xs.map t) → Vals vs us → PySem.NestedAll s.heap (xs.map N.enc) us := by
  induction xs with
  | nil => intro vs us hp hv; cases vs <;> cases hv <;> first | exact .nil | exact hp.elim
  | cons x xs ih => intro vs us hp hv; cases hv <;> first | exact hp.elim | exact .cons (N.ok X eK pins σ H s I S x _ _ hp.1 (by assumption)) (ih _ _ hp.2 (by assumption))
theorem dep_all {f : κ → NK} (h : ∀ x, (f x).depth ≤ n) : ∀ xs : List κ, PySem.NestedKey.depthAll (xs.map f) ≤ n
  | [] => by simp [PySem.NestedKey.depthAll]
  | x :: xs => by simp only [List.map_cons, PySem.NestedKey.depthAll]; exact Nat.max_le.mpr ⟨h x, dep_all h xs⟩
theorem enc_list {f : κ → NK} (h : ∀ a b, f a = f b → a = b) : ∀ xs ys : List κ, xs.map f = ys.map f → xs = ys := fun _ _ e => (List.map_inj_right h).mp e
theorem dep2 {a b : NK} (ha : a.depth ≤ n) (hb : b.depth ≤ n) : (PySem.NestedKey.tup [a, b]).depth ≤ n + 1 := by
  rw [PySem.NestedKey.depth, PySem.NestedKey.depthAll, PySem.NestedKey.depthAll, PySem.NestedKey.depthAll]
  omega
theorem pair_key [N : NE K t n] [M : NE K u n] {X : Cx} (eK : X.K = K) {pins : List (Addr × Obj)} {σ : L2.St} {H : Hp} {s : Shared} (I : L2.Inv X pins σ H s) {S : Fz} {x : κ × κ'} {v : V} {z : Value} (hv : (yPr K t u x).p S H v) (r : RelV v z) : PySem.NestedIs s.heap (.tup [N.enc x.1, M.enc x.2]) z := by
  obtain ⟨a, vs, rfl, hq, hp, _⟩ := hv
  refine tup_key eK I hq (fun us hu => ?_) r
  cases hu with
  | nil => exact hp.elim
  | cons r1 h1 => cases h1 with
    | nil => exact hp.2.elim
    | cons r2 h2 => cases h2 with
      | nil => exact .cons (N.ok X eK pins σ H s I S _ _ _ hp.1 r1) (.cons (M.ok X eK pins σ H s I S _ _ _ hp.2.1 r2) .nil)
      | cons _ _ => exact hp.2.2.elim
theorem enc2 [N : NE K t n] [M : NE K u n] {a b : κ × κ'} (e : PySem.NestedKey.tup [N.enc a.1, M.enc a.2] = .tup [N.enc b.1, M.enc b.2]) : a = b := by
  have e := PySem.NestedKey.tup.inj e
  exact Prod.ext (N.inj _ _ (List.cons.inj e).1) (M.inj _ _ (List.cons.inj (List.cons.inj e).2).1)
instance nePr [N : NE K t n] [M : NE K u n] : NE K (yPr K t u) (n + 1) where
  enc x := .tup [N.enc x.1, M.enc x.2]
  inj _ _ e := enc2 e
  dep x := dep2 (N.dep x.1) (M.dep x.2)
  tup _ _ := ⟨_, rfl⟩
  ok _ eK _ _ _ _ I _ _ _ _ hv r := pair_key eK I hv r
instance neTup [N : NE K t n] : NE K (yTup K t) (n + 1) := ⟨fun xs => .tup (xs.map N.enc), fun a b e => enc_list N.inj _ _ (PySem.NestedKey.tup.inj e), fun xs => Nat.succ_le_succ (dep_all N.dep xs), fun _ _ => ⟨_, rfl⟩, fun X eK pins σ H s I S xs v z hv r => by
  obtain ⟨a, vs, rfl, hq, hp, _⟩ := hv
  exact tup_key eK I hq (items_key eK I xs vs · hp ·) r⟩
/-- what the rules ask of keys -/
def KyOf (K : PySem.W.Frag) (t : κ → Pv) [N : NE K t (n + 1)] : Hp → NK → V → Prop := fun H l v => ∃ S k, N.enc k = l ∧ (t k).p S H v
theorem kyOf_ok {P : Program} {w : World} [N : NE K t (n + 1)] (h8 : n + 1 ≤ 8) : Sl.KeyOk P w K (VN P w) (KyOf K t) := by
  intro X eP ew eK pins σ H s I k v z ⟨S, x, e, h⟩ r
  subst eP ew e
  have q := N.ok X eK pins σ H s I S x v z h r
  obtain ⟨ks, ek⟩ := N.tup x (Nat.succ_pos n)
  have q' := q
  rw [ek] at q'
  cases q' with
  | tup _ _ _ _ => exact ⟨_, rfl, q, Nat.le_trans (N.dep x) h8⟩
end
section
variable {κ α : Type} {n : Nat}
def NdOk (K : PySem.W.Frag) (S : Fz) (H : Hp) (t : κ → Pv) [N : NE K t (n + 1)] (u : α → Pv) : EnL NK → List (κ × α) → Prop
  | [], [] => True
  | e :: es, p :: ps => (e.1 = N.enc p.1 ∧ (t p.1).p S H (.ref e.2.1) ∧ (u p.2).p S H e.2.2) ∧ NdOk K S H t u es ps
  | _, _ => False
variable {t : κ → Pv} [N : NE K t (n + 1)] {u : α → Pv} {S S' : Fz} {H H' : Hp}
theorem NdOk.up (l : Le S H S' H') : ∀ {es : EnL NK} {d : List (κ × α)}, NdOk K S H t u es d → NdOk K S' H' t u es d
  | [], [], _ => trivial
  | [], _ :: _, h => False.elim h
  | _ :: _, [], h => False.elim h
  | e :: es, p :: d, h => ⟨⟨h.1.1, (t p.1).up l h.1.2.1, (u p.2).up l h.1.2.2⟩, NdOk.up l h.2⟩
theorem NdOk.len : ∀ {es : EnL NK} {d : List (κ × α)}, NdOk K S H t u es d → es.length = d.length
  | [], [], _ => rfl
  | [], _ :: _, h => False.elim h
  | _ :: _, [], h => False.elim h
  | e :: es, p :: d, h => congrArg Nat.succ (NdOk.len h.2)
theorem NdOk.key : ∀ {es : EnL NK} {d : List (κ × α)}, NdOk K S H t u es d → ∀ e ∈ es, KyOf K t H e.1 (.ref e.2.1)
  | [], _, _, e, he => by simp at he
  | _ :: _, [], h, _, _ => False.elim h
  | e :: es, p :: d, h, e', he => by
    rcases List.mem_cons.mp he with rfl | he
    · exact ⟨S, p.1, h.1.1.symm, h.1.2.1⟩
    · exact NdOk.key h.2 e' he
theorem NdOk.at : ∀ {es : EnL NK} {d : List (κ × α)} {j : Nat} {e : NK × Addr × V}, NdOk K S H t u es d → es[j]? = some e → ∃ p, d[j]? = some p ∧ (t p.1).p S H (.ref e.2.1)
  | [], _, _, _, _, he => by simp at he
  | _ :: _, [], _, _, h, _ => False.elim h
  | e :: es, p :: d, 0, e', h, he => by cases he; exact ⟨p, rfl, h.1.2.1⟩
  | e :: es, p :: d, j + 1, e', h, he => NdOk.at (j := j) h.2 he
variable [DecidableEq κ]
theorem NdOk.look {k : κ} : ∀ {es : EnL NK} {d : List (κ × α)}, NdOk K S H t u es d → (∀ x, dlook d k = some x → ∃ v, Sl.lookN es (N.enc k) = some v ∧ (u x).p S H v) ∧ (dlook d k = none → Sl.lookN es (N.enc k) = none)
  | [], [], _ => ⟨fun x h => by simp [dlook] at h, fun _ => rfl⟩
  | [], _ :: _, h => False.elim h
  | _ :: _, [], h => False.elim h
  | e :: es, (k', x') :: d, h => by
    obtain ⟨i1, i2⟩ := NdOk.look (k := k) h.2
    by_cases z : k' = k
    · have z' : e.1 = N.enc k := by rw [h.1.1]; exact congrArg _ z
      have e1 : dlook ((k', x') :: d) k = some x' := by simp [dlook, List.find?_cons, z]
      have e2 : Sl.lookN (e :: es) (N.enc k) = some e.2.2 := by simp [Sl.lookN, List.find?_cons, z']
      rw [e1, e2]
      exact ⟨fun x hx => by cases hx; exact ⟨_, rfl, h.1.2.2⟩, fun z => by cases z⟩
    · have z' : ¬ e.1 = N.enc k := by rw [h.1.1]; exact fun q => z (N.inj _ _ q)
      have e1 : dlook ((k', x') :: d) k = dlook d k := by simp [dlook, List.find?_cons, z]
      have e2 : Sl.lookN (e :: es) (N.enc k) = Sl.lookN es (N.enc k) := by simp [Sl.lookN, List.find?_cons, z']
      rw [e1, e2]
      exact ⟨i1, i2⟩
theorem NdOk.has {k : κ} {es : EnL NK} {d : List (κ × α)} (h : NdOk K S H t u es d) : (Sl.lookN es (N.enc k)).isSome = dhas d k := by
  obtain ⟨h1, h2⟩ := h.look (k := k)
  unfold dhas
  cases e : dlook d k with
  | none => rw [h2 e]; rfl
  | some y => obtain ⟨v, e', _⟩ := h1 y e; rw [e']; rfl
theorem NdOk.put {k : κ} {y : α} {v : V} {b : Addr} {es : EnL NK} {d : List (κ × α)} (h : NdOk K S H t u es d) (hk : (t k).p S H (.ref b)) (hv : (u y).p S H v) : NdOk K S H t u (Sl.putN es (N.enc k) b v) (dput d k y) := by
  have any : (d.any fun kv => decide (kv.1 = k)) = (Sl.lookN es (N.enc k)).isSome := by
    rw [h.has (k := k)]
    unfold dhas dlook
    clear h
    induction d with
    | nil => rfl
    | cons p d ih =>
      by_cases z : p.1 = k
      · simp [List.find?_cons, z]
      · simp only [List.any_cons, List.find?_cons, z, decide_false, Bool.false_or]
        exact ih
  unfold Sl.putN dput
  rw [any]
  by_cases z : (Sl.lookN es (N.enc k)).isSome = true
  · rw [if_pos z, if_pos z]
    clear z any
    induction es generalizing d with
    | nil => cases d with
      | nil => trivial
      | cons p d => exact False.elim h
    | cons e es ih => cases d with
      | nil => exact False.elim h
      | cons p d =>
        refine ⟨?_, ih h.2⟩
        by_cases q : p.1 = k
        · have q' : e.1 = N.enc k := by rw [h.1.1, q]
          dsimp only
          rw [if_pos q', if_pos q]
          exact ⟨h.1.1, h.1.2.1, hv⟩
        · have q' : ¬ e.1 = N.enc k := by rw [h.1.1]; exact fun z => q (N.inj _ _ z)
          dsimp only
          rw [if_neg q', if_neg q]
          exact h.1
  · rw [if_neg z, if_neg z]
    clear z any
    induction es generalizing d with
    | nil => cases d with
      | nil => exact ⟨⟨rfl, hk, hv⟩, trivial⟩
      | cons p d => exact False.elim h
    | cons e es ih => cases d with
      | nil => exact False.elim h
      | cons p d => exact ⟨h.1, ih h.2⟩
end
section
variable (P : Program) (w : World) (K) {κ α : Type} {n : Nat} (t : κ → Pv) [N : NE K t (n + 1)] (u : α → Pv)
def yDn (d : List (κ × α)) : Pv := ⟨fun S H v => ∃ a c xs, v = .ref a ∧ S a ∧ Rd H a (Sl.dN (VN P w) c xs) ∧ NdOk K S H t u xs d ∧ xs.length ≤ sizeLine, fun l ⟨a, c, kvs, h1, h2, h3, h4, h5⟩ => ⟨a, c, kvs, h1, l.fz a h2, l.rd (fun _ _ e => nomatch e) (fun _ _ _ e => nomatch e) h3 (.inl h2), h4.up l, h5⟩⟩
def wDn (d : List (κ × α)) : Ow where
  w S H o := ∃ c xs, o = Sl.dN (VN P w) c xs ∧ NdOk K S H t u xs d ∧ xs.length ≤ sizeLine
  up l h := by obtain ⟨c, kvs, h1, h3, h4⟩ := h; exact ⟨c, kvs, h1, h3.up l, h4⟩
  nt h := by obtain ⟨a, kvs, rfl, _⟩ := h; rfl
  pv := yDn K P w t u d
  to hs he h := by obtain ⟨c, kvs, rfl, h2, h3⟩ := h; exact ⟨_, c, kvs, rfl, hs, .inl he, h2, h3⟩
end
section
variable {ρ : Type} {A : Nat → Addr} {E : L2.St → XK} {P : Program} {w : World} {Γ : Ctx} {c : Res ρ} {κ : Ctx → Vo → Res ρ → Prop} {κ' α : Type} {n : Nat} {t : κ' → Pv} [N : NE K t (n + 1)] {u : α → Pv} {te td tx ty : TE} {tr : TA} {tb : TS} {g : TG} {i : Nat} {Δ : Dl ρ} [DecidableEq κ']
theorem wx_nnew (h : κ Γ (.own (wDn K P w t u [])) c) : WX A E Γ (Sl.tDNewN (VN P w)) c κ := fun F T S σ H Q O R hc k => fun p hp => k _ _ _ h S _ _ (R.new hp) (le_new hp) (isOwn R hp ⟨p, [], rfl, trivial, Nat.zero_le _⟩) hc
theorem wx_nget (h : WX A E Γ td c fun Γ1 V c1 => ∃ d : List (κ' × α), V = .val (yDn K P w t u d) ∧ WX A E Γ1 ty c1 fun Γ2 V2 c2 => ∃ x k, V2 = .val (t x) ∧ c2 = (pdget d x).bind k ∧ ∀ y, κ Γ2 (.val (u y)) (k y)) : WX A E Γ (Sl.tDGetN (VN P w) (KyOf K t) td ty) c κ := fun F T S σ H Q O R hc kk => by
  refine h F T S σ H _ O R hc fun Γ1 V c1 h1 S1 H1 v R1 l1 p1 hc1 => ?_
  obtain ⟨d, rfl, h1⟩ := h1
  refine h1 F T S1 σ H1 _ O R1 hc1 fun Γ2 V c2 h2 S2 H2 z R2 l2 p2 hc2 => ?_
  obtain ⟨x, k, rfl, rfl, h2⟩ := h2
  obtain ⟨y, hy, hT⟩ := pdget_of O.nb hc2
  obtain ⟨a, b, xs, rfl, hs, hr, hk, hl⟩ := (yDn K P w t u d).up l2 p1
  obtain ⟨v, e, hp⟩ := (hk.look (k := x)).1 y hy
  exact ⟨a, b, xs, N.enc x, v, rfl, hr, hk.key, ⟨S2, x, rfl, p2⟩, e, kk _ _ _ (h2 y) S2 H2 v R2 (l1.trans l2) hp hT⟩
theorem wx_nin (h : WX A E Γ ty c fun Γ1 V c1 => ∃ x, V = .val (t x) ∧ WX A E Γ1 td c1 fun Γ2 V2 c2 => ∃ d : List (κ' × α), V2 = .val (yDn K P w t u d) ∧ κ Γ2 (.val (yBl (dhas d x))) c2) : WX A E Γ (Sl.tDInN (VN P w) (KyOf K t) ty td) c κ := fun F T S σ H Q O R hc kk => by
  refine h F T S σ H _ O R hc fun Γ1 V c1 h1 S1 H1 v R1 l1 p1 hc1 => ?_
  obtain ⟨x, rfl, h1⟩ := h1
  refine h1 F T S1 σ H1 _ O R1 hc1 fun Γ2 V c2 h2 S2 H2 z R2 l2 p2 hc2 => ?_
  obtain ⟨d, rfl, h2⟩ := h2
  obtain ⟨a, b, xs, rfl, hs, hr, hk, hl⟩ := p2
  refine ⟨a, b, xs, N.enc x, rfl, hr, hk.key, ⟨S2, x, rfl, (t x).up l2 p1⟩, ?_⟩
  rw [hk.has]
  exact kk _ _ _ h2 S2 H2 _ R2 (l1.trans l2) rfl hc2
theorem wx_nnin (h : WX A E Γ ty c fun Γ1 V c1 => ∃ x, V = .val (t x) ∧ WX A E Γ1 td c1 fun Γ2 V2 c2 => ∃ d : List (κ' × α), V2 = .val (yDn K P w t u d) ∧ κ Γ2 (.val (yBl (!dhas d x))) c2) : WX A E Γ (Sl.tDNinN (VN P w) (KyOf K t) ty td) c κ := fun F T S σ H Q O R hc kk => by
  refine h F T S σ H _ O R hc fun Γ1 V c1 h1 S1 H1 v R1 l1 p1 hc1 => ?_
  obtain ⟨x, rfl, h1⟩ := h1
  refine h1 F T S1 σ H1 _ O R1 hc1 fun Γ2 V c2 h2 S2 H2 z R2 l2 p2 hc2 => ?_
  obtain ⟨d, rfl, h2⟩ := h2
  obtain ⟨a, b, xs, rfl, hs, hr, hk, hl⟩ := p2
  refine ⟨a, b, xs, N.enc x, rfl, hr, hk.key, ⟨S2, x, rfl, (t x).up l2 p1⟩, ?_⟩
  rw [hk.has]
  exact kk _ _ _ h2 S2 H2 _ R2 (l1.trans l2) rfl hc2
theorem ws_nput (href : ∀ (x : κ') S H v, (t x).p S H v → ∃ b, v = .ref b) (h : WX A E Γ te c fun Γ1 V1 c1 => ∃ y, V1 = .val (u y) ∧ (∃ b O, Γ1[i]? = some (.own b O)) ∧ WX A E Γ1 ty c1 fun Γ2 V2 c2 => ∃ b x k, ∃ d : List (κ' × α), V2 = .val (t x) ∧ Γ2[i]? = some (.own b (wDn K P w t u d)) ∧ c2 = (pdput d x y).bind k ∧ ∀ d', Δ.nx (Γ2.set i (.own b (wDn K P w t u d'))) (k d')) :
    WS A E Γ (Sl.sDPutN (VN P w) (KyOf K t) (tVar i) ty te) c Δ := fun F T S σ H D O R hc dd => by
  refine h F T S σ H _ (O σ) R hc fun Γ1 V c1 h1 S1 H1 v R1 l1 p1 hc1 => ?_
  obtain ⟨y, rfl, ⟨b0, O0, hg0⟩, h1⟩ := h1
  obtain ⟨a0, o0, e0, _⟩ := R1.own i b0 _ hg0
  refine ⟨_, e0, ?_⟩
  refine h1 F T S1 σ H1 _ (O σ) R1 hc1 fun Γ2 V c2 h2 S2 H2 z R2 l2 p2 hc2 => ?_
  obtain ⟨b, x, k, d, rfl, hg, rfl, h2⟩ := h2
  obtain ⟨hl, hT⟩ := pdput_of (O σ).nb hc2
  obtain ⟨a, o, w1, w2, ⟨q, xs, rfl, w3, w4⟩, w5, w6, _⟩ := R2.own i b _ hg
  rw [e0] at w1; cases w1
  obtain ⟨b', rfl⟩ := href x _ _ _ p2
  have hlen : xs.length = d.length := w3.len
  have lm := le_mut (o' := Sl.dN (VN P w) q (Sl.putN xs (N.enc x) b' v)) w2 w5 rfl
  have hw : (wDn K P w t u (dput d x y)).w S2 (upd H2 a0 (Sl.dN (VN P w) q (Sl.putN xs (N.enc x) b' v))) (Sl.dN (VN P w) q (Sl.putN xs (N.enc x) b' v)) := ⟨_, _, rfl, (w3.put p2 ((u y).up l2 p1)).up lm, Nat.le_trans Sl.putN_len (sz (by omega))⟩
  obtain ⟨l3, R3⟩ := R2.mut (O' := wDn K P w t u (dput d x y)) (o' := Sl.dN (VN P w) q (Sl.putN xs (N.enc x) b' v)) hg e0 fun _ _ _ => hw
  exact ⟨a0, q, xs, N.enc x, b', rfl, rfl, w2, w3.key, ⟨S2, x, rfl, p2⟩, szl (by omega), dd.nx _ _ (h2 _) S2 σ _ R3 ((l1.trans l2).trans l3) hT⟩
theorem rc_nlist {d : List (κ' × α)} (h : κ Γ (.own (wLst K t (dkeys d))) c) : RC A E (fun _ => Sl.rListN (VN P w)) [.val (yDn K P w t u d)] Γ c κ := fun F T S σ H vs Q' O R hc hg k => by
  obtain ⟨v, rfl, a, b, xs, rfl, hs, hr, hk, hl⟩ := ag1 hg
  refine ⟨a, b, xs, rfl, hr, hl, fun p hp => k _ _ _ h S _ _ (R.new hp) (le_new hp) (isOwn R hp ⟨_, rfl, ?_, by rw [List.length_map]; exact hl⟩) hc⟩
  replace hk := hk.up (le_new (S := S) (o := .lst (xs.map fun e => V.ref e.2.1)) hp)
  generalize upd H p _ = H' at hk ⊢
  clear hr hl hg h
  unfold dkeys
  induction xs generalizing d with
  | nil => cases d with
    | nil => trivial
    | cons p d => exact False.elim hk
  | cons e xs ih => cases d with
    | nil => exact False.elim hk
    | cons p d => exact ⟨hk.1.2.1, ih hk.2⟩
theorem itn_ok {F : Fr} {S : Fz} {H : Hp} {d q : Addr} {o : Obj} {xs : EnL NK} {dd : List (κ' × α)} (h0 : F.H0 d = some (.frz o (Sl.dN (VN P w) q xs))) (hI : ¬ F.I d) (hp : NdOk K S H t u xs dd) (hl : xs.length ≤ sizeLine) : ItOk F (Sl.ItN (VN P w) d q o xs) ((dkeys dd).map t) S H := by
  have e : ((dkeys dd).map t).length = xs.length := by rw [hp.len, dkeys, List.length_map, List.length_map]
  refine ⟨by rw [e]; exact hl, fun S1 H1 l f => ?_⟩
  have hd := f.kp d _ h0 hI
  rw [e]
  refine ⟨fun j hj => ⟨hd, hj⟩, ⟨hd, Nat.le_refl _⟩, fun j x H' hj y => ?_⟩
  obtain ⟨rfl, en, h1, rfl⟩ := y
  obtain ⟨p, q1, q2⟩ := (hp.up l).at h1
  exact ⟨t p.1, by rw [List.getElem?_map, dkeys, List.getElem?_map, q1]; rfl, .inl rfl, q2⟩
theorem ndn {q : Addr} {xs : EnL NK} : (∀ C dx fs, Sl.dN (VN P w) q xs ≠ .ins C dx fs) ∧ (∀ z v, Sl.dN (VN P w) q xs ≠ .frz z v) ∧ ∀ ys, Sl.dN (VN P w) q xs ≠ .tup ys := ⟨(fun _ _ _ e => nomatch e), (fun _ _ e => nomatch e), fun _ e => nomatch e⟩
end
/-! ### a dict that is walked in a comprehension -/
theorem ref_tup {ps : List Pv} (S : Fz) (H : Hp) (v : V) (h : (pTup K ps).p S H v) : ∃ b, v = .ref b := by
  obtain ⟨a, _, e, _⟩ := h
  exact ⟨a, e⟩
end Mi
namespace Sl
open PySem PySem.Spec PyProof.Rows L2
end Sl
namespace Sl
open PySem PySem.Spec PyProof.Rows L2
/-! ### {k: v for target in iter if ..}, the keys tuples of any depth -/
section
variable {P : Program} {w : World} {L : Type} [DecidableEq L] {κd : PySem.HeapKind P w L} {G : Hp → L → V → Prop} {K : PySem.W.Frag}
/-- one entry more of the dict at D -/
def Entry (κd : PySem.HeapKind P w L) (G : Hp → L → V → Prop) (D : Addr) (y z : V) (H : Hp) (R : Hp → Prop) : Prop :=
  ∃ xs k b, y = .ref b ∧ H D = some (dN κd D xs) ∧ (∀ e ∈ xs, G H e.1 (.ref e.2.1)) ∧ G H k y ∧ xs.length < sizeLine ∧ R (upd H D (dN κd D (putN xs k b z)))
/-- a turn of the walk: what the target, the tests, the key and the value do, and the entry that it makes -/
def Turning (κd : PySem.HeapKind P w L) (G : Hp → L → V → Prop) (g : TG) (tt : TT) (tk tv : TE) (vs : List Nat) (σ : L2.St) (D : Addr) (R : Hp → Prop) (x : V) (H : Hp) : Prop :=
  g x (wipe σ vs) H fun σ1 H1 => wipe σ1 vs = wipe σ vs ∧ tt σ1 H1 fun b H2 => (b = false → R H2) ∧ (b = true → tk σ1 H2 fun y H3 => tv σ1 H3 fun z H4 => Entry κd G D y z H4 R)
/-- n turns, P what holds ahead of the i-th; the new dict at D -/
def tDcN (κd : PySem.HeapKind P w L) (G : Hp → L → V → Prop) (wi : TI) (g : TG) (tt : TT) (tk tv : TE) (vs : List Nat) : TE := fun σ H Q => wi σ H fun J H1 => ∀ D, H1 D = none →
  ∃ (n : Nat) (I : Nat → Hp → Prop), I 0 (upd H1 D (dN κd D [])) ∧ (∀ H2, I n H2 → J.stop n H2 ∧ Q (.ref D) H2) ∧
    ∀ i, i < n → ∀ H2, I i H2 → J.go i H2 ∧ ∀ x H3, J.yld i H2 x H3 → Turning κd G g tt tk tv vs σ D (I (i + 1)) x H3
theorem set_entry {X : Cx} {s : Shared} {pins : List (Addr × Obj)} {σ : L2.St} {H : Hp} {D : Addr} {y z : V} {u r : Value} {E : Value → Shared → Prop} {R : Hp → Prop} {Q : Unit → Shared → Prop}
    (eP : X.prog = P) (ew : X.w = w) (eK : X.K = K) (hG : KeyOk P w K κd G) (h7 : ∀ A : Around, A.units + 8 < cLine → κd.room A) (hu : X.A.units + 64 < cLine) (I : Inv X pins σ H s) (ry : RelV y u) (rz : RelV z r) (h : Entry κd G D y z H R)
    (hQ : ∀ H' s', Inv X pins σ H' s' → R H' → Q () s') : wpAny (model X.prog X.w) X.A (dictSet D u r) Q E s := by
  obtain ⟨xs, k, b, rfl, at_, ks, ky, hl, after⟩ := h
  obtain ⟨ns, ys, rel, stands⟩ := dN_of eP ew eK hG h7 I (.inl at_) ks
  obtain ⟨b', rfl, e, key⟩ := key_at eP ew eK hG h7 I ky ry
  cases e
  subst eP ew
  refine wpAny_dictSet_heap (hsz := by rw [← entR_len rel]; exact Nat.le_of_lt hl) (h7 _ (by omega)) key stands fun h' new same => ?_
  obtain ⟨o, es, ep, g, ex, dat, ents, _, nd⟩ := new
  exact hQ _ _ (d_write I (by rw [at_]; exact True.intro) same ⟨_, g⟩ (dN_ok ⟨ns, _, o, es, ep, entR_put rz rel, g, ex, dat, ents, nd⟩)) after
/-- what holds in the block: its own context's invariant, the iterator at its turn -/
def Within (X : Cx) (s0 : Shared) (H0 : Hp) (scope : Scope) (ce : Env) (fp : List Addr) (tn : Nat → Heap → Prop) (σ : L2.St) (I : Nat → Hp → Prop) (i : Nat) (s : Shared) : Prop :=
  ∃ H, Inv (X.blk s0 H0 scope ce fp) [] σ H s ∧ tn i s.heap ∧ (∀ b ∈ fp, H b = none) ∧ I i H
/-- the iterator's objects are none of the block's -/
theorem fp_in {X : Cx} {s0 : Shared} {H0 H1 H : Hp} {s : Shared} {scope : Scope} {ce : Env} {fp : List Addr} {pins : List (Addr × Obj)} {σ σ1 : L2.St} {s1 : Shared} (I1 : Inv X pins σ1 H1 s1) (f : ∀ b ∈ fp, FpOk X pins H1 b) (I : Inv (X.blk s0 H0 scope ce fp) [] σ H s)
    (none : ∀ b ∈ fp, H b = none) (ob : ∀ b ∈ fp, ∃ o, s.heap.get? b = some o ∧ ∀ v, o.data ≠ .cell v) (loc : ∀ b ∈ fp, b ≠ ce.locals) : ∀ b ∈ fp, FpOk (X.blk s0 H0 scope ce fp) [] H b := by
  intro b hb
  refine ⟨none b hb, loc b hb, fun z => ?_, .inl hb, fun x c hc e => ?_, fun p hp => by cases hp⟩
  · rcases List.mem_cons.mp (I1.stkSub b z) with e | e
    · exact (f b hb).2.1 e
    · exact (f b hb).2.2.1 e
  · subst e
    obtain ⟨o, h1, h2⟩ := ob c hb
    obtain ⟨v, o', h3, h4⟩ := I.cell x c hc
    rw [h1] at h3
    cases h3
    exact h2 _ h4
/-- out of the block: the frame around goes on -/
theorem leave {X : Cx} {s0 s : Shared} {H0 H : Hp} {scope : Scope} {ce : Env} {fp : List Addr} {pins : List (Addr × Obj)} {σ τ : L2.St} (I0 : Inv X pins σ H0 s0) (f : ∀ b ∈ fp, FpOk X pins H0 b) (I : Inv (X.blk s0 H0 scope ce fp) [] τ H s) : Inv X pins σ H s :=
  I0.call' I.os I.base I.hok I.bare fun b hb => ⟨(f b hb).2.2.2.1, (f b hb).2.1, (f b hb).2.2.2.2.1, (f b hb).2.2.2.2.2⟩
section
variable {X : Cx} {kx vx tg iter : Expr} {ifs : List Expr} {scope : Scope} {own : List (Str × Nat)} {pos pos' : Pos} {wi : TI} {g : TG} {tt : TT} {tk tv : TE}
theorem dcN_core {use : Option (Value → Sem Unit)} {Qf : Value → Shared → Prop} {pins : List (Addr × Obj)} {s : Shared} {σ : L2.St} {H : Hp} {Q : VK}
    (eP : X.prog = P) (ew : X.w = w) (eK : X.K = K) (hG : KeyOk P w K κd G) (h7 : ∀ A : Around, A.units + 8 < cLine → κd.room A) (hu : X.A.units + 64 < cLine) (hc : X.calm = true) (hN : X.N.Nodup) (hi : PI X tg iter wi) (ok : BlkOk X.N X.env.scope scope own)
    (hg : ∀ (s : Shared) (H : Hp) (C : Addr) (cl : List (Str × Addr)) (fp : List Addr), PG (X.blk s H scope (compEnvC scope cl C X.env) fp) tg g) (ht : ∀ (s : Shared) (H : Hp) (C : Addr) (cl : List (Str × Addr)) (fp : List Addr), PTs (X.blk s H scope (compEnvC scope cl C X.env) fp) ifs tt)
    (hk : ∀ (s : Shared) (H : Hp) (C : Addr) (cl : List (Str × Addr)) (fp : List Addr), PE (X.blk s H scope (compEnvC scope cl C X.env) fp) kx tk) (hv : ∀ (s : Shared) (H : Hp) (C : Addr) (cl : List (Str × Addr)) (fp : List Addr), PE (X.blk s H scope (compEnvC scope cl C X.env) fp) vx tv)
    (hs : ∀ x, foldedSetIterable iter X.env x = pure x) (I : Inv X pins σ H s) (h : tDcN κd G wi g tt tk tv (own.map (·.2)) σ H Q)
    (fin : ∀ D C s' H', Inv X pins σ H' s' → Q (.ref D) H' → (∃ m, s'.heap.Ns C m) → FpOk X pins H' C → compPost (model X.prog X.w) X.A X.xe use Qf (.ref D) C (.ok .next) s') :
    wpAny (model X.prog X.w) X.A (comprehension (.DictComp kx vx [⟨tg, iter, ifs, 0⟩] scope pos) scope X.env pos' newDict false (eval iter X.env) use) Qf X.xe s := by
  have cap : ∀ y ∈ scope.names, y.2 = .free → ∃ c, X.env.cells.lookup y.1 = some c := fun y hy e => I.ok.has _ (ok.free y hy e)
  refine wpAny_comprehension_free (use := use) rfl hs (closure_ok cap) ok.kind (fun y hy e => (ok.uniq y hy).trans (congrArg some e)) ?_
  refine wpAny_mono (hi.run pins s σ H _ I h) (fun _ s1 h1 => wpAny_mono h1 (fun _ s2 h2 => ?_) fun _ _ e => e) fun _ _ e => e
  obtain ⟨it, fp, tn, J, H1, rfl, I1, T, t1, f1, h2⟩ := h2
  have lt1 : ∀ b ∈ fp, b < s2.heap.objs.size := fun b hb => by
    obtain ⟨o, ho, _⟩ := T.obj 0 _ t1 b hb
    exact Heap.lt_size ho
  obtain ⟨n, L', l0, lEnd, lTurn⟩ := h2 s2.heap.objs.size (I1.hok.fresh (Nat.le_refl _))
  refine wpAny_newObj_type (newEnv_comp ?_)
  -- the new dict stands, the block begins
  have I2 := I1.laid (t' := s2.toks) (fun _ _ q => Heap.get?_push_of_some _ q) (Nat.le_refl _) (dN_ok (dN_new κd I1))
  have t2 : tn 0 (s2.heap.push { cls := .type "dict", data := .dict #[] }) := T.keep 0 _ _ t1 fun b _ o e => Heap.get?_push_of_some _ e
  have f2 : ∀ b ∈ fp, FpOk X pins (upd H1 s2.heap.objs.size (dN κd s2.heap.objs.size [])) b := fun b hb => by
    obtain ⟨a, r⟩ := f1 b hb
    exact ⟨by rw [upd_ne (Nat.ne_of_lt (lt1 b hb))]; exact a, r⟩
  have I3 := block_start I2 ok hN fun b hb => ⟨f2 b hb, by rw [Heap.size_push]; exact Nat.lt_succ_of_lt (lt1 b hb)⟩
  have f3 : ∀ H' : Hp, H' ({ s2 with heap := s2.heap.push { cls := .type "dict", data := .dict #[] } } : Shared).heap.objs.size = none → FpOk X pins H' ({ s2 with heap := s2.heap.push { cls := .type "dict", data := .dict #[] } } : Shared).heap.objs.size := fun H' => I2.fpOk (Nat.le_refl _)
  have low : ∀ b ∈ fp, b < ({ s2 with heap := s2.heap.push { cls := .type "dict", data := .dict #[] } } : Shared).heap.objs.size := fun b hb => by
    show b < (s2.heap.push _).objs.size
    rw [Heap.size_push]; exact Nat.lt_succ_of_lt (lt1 b hb)
  generalize upd H1 s2.heap.objs.size (dN κd s2.heap.objs.size []) = H2 at I2 I3 f2 l0
  change tn 0 ({ s2 with heap := s2.heap.push { cls := .type "dict", data := .dict #[] } } : Shared).heap at t2
  generalize ({ s2 with heap := s2.heap.push { cls := .type "dict", data := .dict #[] } } : Shared) = s3 at I2 I3 f3 low t2 ⊢
  generalize s2.heap.objs.size = D at lEnd lTurn ⊢
  have t3 : tn 0 ({ s3 with heap := pushCells (s3.heap.push { cls := .type "dict", data := .dict #[] }) scope.names } : Shared).heap := T.keep 0 _ _ t2 fun b _ o e => pushCells_keeps _ _ _ _ (Heap.get?_push_of_some _ e)
  change codeAny (model X.prog X.w) X.A (.compStart (.DictComp kx vx [⟨tg, iter, ifs, 0⟩] scope pos) 0 (.ref it) (.ref D) (compEnvC scope (cellsFrom (s3.heap.objs.size + 1) scope.names (cloFrom X.env.cells scope.names [])) s3.heap.objs.size X.env)) (compPost (model X.prog X.w) X.A X.xe use Qf (.ref D) s3.heap.objs.size) { s3 with heap := pushCells (s3.heap.push { cls := .type "dict", data := .dict #[] }) scope.names }
  generalize ({ s3 with heap := pushCells (s3.heap.push { cls := .type "dict", data := .dict #[] }) scope.names } : Shared) = s4 at I3 t3 ⊢
  -- the turns
  have own_it : ∀ {i : Nat} {τ : L2.St} {H' : Hp} {s' : Shared}, Inv (X.blk s3 H2 scope (compEnvC scope (cellsFrom (s3.heap.objs.size + 1) scope.names (cloFrom X.env.cells scope.names [])) s3.heap.objs.size X.env) fp) [] τ H' s' → tn i s'.heap → (∀ b ∈ fp, H' b = none) →
      ∀ b ∈ fp, FpOk (X.blk s3 H2 scope (compEnvC scope (cellsFrom (s3.heap.objs.size + 1) scope.names (cloFrom X.env.cells scope.names [])) s3.heap.objs.size X.env) fp) [] H' b := fun I' t' n' => fp_in I2 f2 I' n' (T.obj _ _ t') fun b hb => Nat.ne_of_lt (low b hb)
  have loop : codeAny (model X.prog X.w) X.A (.compLoop (.DictComp kx vx [⟨tg, iter, ifs, 0⟩] scope pos) 0 (.ref it) (.ref D) (compEnvC scope (cellsFrom (s3.heap.objs.size + 1) scope.names (cloFrom X.env.cells scope.names [])) s3.heap.objs.size X.env)) (compPost (model X.prog X.w) X.A X.xe use Qf (.ref D) s3.heap.objs.size) s4 := by
    refine compLoop_anyD (fun m s' => ∃ i, i ≤ n ∧ m + i = n ∧ Within X s3 H2 scope (compEnvC scope (cellsFrom (s3.heap.objs.size + 1) scope.names (cloFrom X.env.cells scope.names [])) s3.heap.objs.size X.env) fp tn (wipe σ (own.map (·.2))) L' i s') (fun m s' hw => ?_) n ⟨0, Nat.zero_le _, rfl, H2, I3, t3, fun b hb => (f2 b hb).1, l0⟩
    generalize cellsFrom (s3.heap.objs.size + 1) scope.names (cloFrom X.env.cells scope.names []) = cl at own_it hw ⊢
    obtain ⟨i, le, em, H', I', t', n', l'⟩ := hw
    rcases Nat.lt_or_eq_of_le le with lt | rfl
    · obtain ⟨go, turn⟩ := lTurn i lt H' l'
      refine wpAny_mono (T.item (X.blk s3 H2 scope (compEnvC scope cl s3.heap.objs.size X.env) fp) rfl rfl rfl hc i [] s' _ H' _ I' (own_it I' t' n') t' go) (fun r s5 ⟨u, er, h5⟩ => ?_) fun _ _ e => e
      subst er
      refine wpAny_mono h5 (fun _ s6 ⟨x, H6, I6, rx, y, t6, n6⟩ => ?_) fun _ _ e => e
      have J6 := I6.pinned (own_it I6 t6 n6) (T.obj _ _ t6)
      have on : ∀ {τ : L2.St} {H7 : Hp} {s7 : Shared}, Inv (X.blk s3 H2 scope (compEnvC scope cl s3.heap.objs.size X.env) fp) ([] ++ pinsAt fp s6.heap) τ H7 s7 → wipe τ (own.map (·.2)) = wipe σ (own.map (·.2)) → L' (i + 1) H7 →
          ∃ m', m' < m ∧ ∃ i, i ≤ n ∧ m' + i = n ∧ Within X s3 H2 scope (compEnvC scope cl s3.heap.objs.size X.env) fp tn (wipe σ (own.map (·.2))) L' i s7 := fun {τ H7 s7} I7 wp l7 => by
        have at_ : ∀ b ∈ fp, ∃ o, s6.heap.get? b = some o ∧ s7.heap.get? b = some o ∧ H7 b = none := fun b hb => by
          obtain ⟨o, ho, _⟩ := T.obj _ _ t6 b hb
          obtain ⟨p1, p2, _⟩ := I7.pin (b, o) (List.mem_append_right _ (List.mem_append_right _ (mem_pinsAt hb ho)))
          exact ⟨o, ho, p1, p2⟩
        refine ⟨m - 1, by omega, i + 1, lt, by omega, H7, I7.unpinned.weak (by rw [← wp, wipe_length]) (fun j v e => (wipe_some (wp ▸ e)).1), T.keep _ _ _ t6 fun b hb o ho => ?_, fun b hb => ?_, l7⟩
        · obtain ⟨o', h1, h2, _⟩ := at_ b hb
          rw [ho] at h1; cases h1; exact h2
        · obtain ⟨_, _, _, h3⟩ := at_ b hb
          exact h3
      refine thnF ((hg _ _ _ _ _).run _ s6 _ H6 x u _ J6 rx (turn x H6 y)) fun _ s7 ⟨σ7, H7, I7, w7, tr7⟩ => ?_
      refine thnF ((ht _ _ _ _ _).run _ s7 _ H7 _ I7 tr7) fun b s8 ⟨H8, I8, no, yes⟩ => ?_
      cases b with
      | false => exact on I8 w7 (no rfl)
      | true =>
        refine thnF ((hk _ _ _ _ _).run _ s8 _ H8 _ I8 (yes rfl)) fun kv s9 ⟨y9, H9, I9, r9, q9⟩ => ?_
        refine thnF ((hv _ _ _ _ _).run _ s9 _ H9 _ I9 q9) fun vv s10 ⟨z10, H10, I10, r10, q10⟩ => ?_
        have I9' : Inv (X.blk s3 H2 scope (compEnvC scope cl s3.heap.objs.size X.env) fp) _ _ H10 s10 := I10
        exact set_entry (X := X.blk s3 H2 scope (compEnvC scope cl s3.heap.objs.size X.env) fp) eP ew eK hG h7 hu I10 r9 r10 q10 fun H11 s11 I11 l11 => on I11 w7 l11
    · refine wpAny_mono (T.done (X.blk s3 H2 scope (compEnvC scope cl s3.heap.objs.size X.env) fp) rfl rfl rfl hc i [] s' _ H' _ I' (own_it I' t' n') t' (lEnd H' l').1) (fun r s5 ⟨er, I5⟩ => ?_) fun _ _ e => e
      subst er
      obtain ⟨m5, ns5, _⟩ := I5.loc
      exact fin D _ s5 H' (leave I2 f2 I5) (lEnd H' l').2 ⟨m5, ns5⟩ (f3 H' I5.free)
  exact codeAny_compStart_dict loop (T.self X.A 0 _ _ _ t3 loop)
/-- the block's frame is let go: what held without it holds -/
theorem let_go {pins : List (Addr × Obj)} {σ : L2.St} {H : Hp} {s : Shared} {h : Heap} {C : Addr} (I : Inv X pins σ H s) (f : FpOk X pins H C) (same : Heap.SameBut C s.heap h) : Inv X pins σ H { s with heap := h } :=
  I.turned (t' := s.toks) (fun b o ne e => (same.2 b ne).trans e) f.1 f.2.1 f.2.2.2.1 f.2.2.2.2.1 f.2.2.2.2.2
/-- y = {..} -/
theorem ps_setDcN {i : Nat} {y : Str} {py spos : Pos} (eP : X.prog = P) (ew : X.w = w) (eK : X.K = K) (hG : KeyOk P w K κd G) (h7 : ∀ A : Around, A.units + 8 < cLine → κd.room A) (hu : X.A.units + 64 < cLine) (hc : X.calm = true) (hN : X.N.Nodup) (hy : X.N[i]? = some y) (hyl : X.env.scope.names.lookup y = some .local)
    (hsw : swapsWith (.DictComp kx vx [⟨tg, iter, ifs, 0⟩] scope pos) (some (.Name y py)) spos.line X.env = pure true) (hi : PI X tg iter wi) (ok : BlkOk X.N X.env.scope scope own)
    (hg : ∀ (s : Shared) (H : Hp) (C : Addr) (cl : List (Str × Addr)) (fp : List Addr), PG (X.blk s H scope (compEnvC scope cl C X.env) fp) tg g) (ht : ∀ (s : Shared) (H : Hp) (C : Addr) (cl : List (Str × Addr)) (fp : List Addr), PTs (X.blk s H scope (compEnvC scope cl C X.env) fp) ifs tt)
    (hk : ∀ (s : Shared) (H : Hp) (C : Addr) (cl : List (Str × Addr)) (fp : List Addr), PE (X.blk s H scope (compEnvC scope cl C X.env) fp) kx tk) (hv : ∀ (s : Shared) (H : Hp) (C : Addr) (cl : List (Str × Addr)) (fp : List Addr), PE (X.blk s H scope (compEnvC scope cl C X.env) fp) vx tv)
    (hs : ∀ x, foldedSetIterable iter X.env x = pure x := by intro _; rfl) : PS X (.Assign [.Name y py] (.DictComp kx vx [⟨tg, iter, ifs, 0⟩] scope pos) spos) (tAsg (tDcN κd G wi g tt tk tv (own.map (·.2))) (gName i)) := by
  refine ⟨fun pins s σ H D I h => ?_⟩
  rw [exec_Assign_Name_used _ _ _ _ hsw]
  refine wpAny_bind (wpAny_standAt (wpAny_bind (wpAny_bind (wpAny_mono (dcN_core (use := some (assign (.Name y py) X.env)) (Qf := fun _ s' => SP X pins D .next s') eP ew eK hG h7 hu hc hN hi ok hg ht hk hv hs I (Q := fun x H1 => gName i x σ H1 D.nx) h fun d C s' H' I' q ⟨m, ns⟩ f => ?_) (fun _ s' e => wpAny_pure (wpAny_pure e)) fun _ _ e => e))))
  show wpAny _ _ (assign (.Name y py) X.env (.ref d)) _ _ _
  refine wpAny_assign_Name (store_ok2 (v := V.ref d) I' hN hy (.inl hyl) rfl (fun s2 I2 ⟨a, same, ha⟩ => ?_) (.inr hyl))
  have ne : C ≠ a := fun e => by
    rcases ha with z | z
    · exact f.2.1 (e.trans z)
    · exact f.2.2.2.2.1 y a z e.symm
  exact ⟨m, ns.sameBut same ne, fun h' same' => ⟨_, H', let_go I2 f same', q⟩⟩
end
end
end Sl
namespace Mi
open PySem PySem.Spec PyProof.Rows L2
open Sl (isTup sz szl slt EnL)
/-! ### {k: v for ..}, the keys tuples -/
/-- pairs put one after another -/
def dof {κ α : Type} [DecidableEq κ] (ys : List (κ × α)) : List (κ × α) := ys.foldl (fun d p => dput d p.1 p.2) []
theorem dof_snoc {κ α : Type} [DecidableEq κ] (ys : List (κ × α)) (p : κ × α) : dof (ys ++ [p]) = dput (dof ys) p.1 p.2 := by
  unfold dof
  rw [List.foldl_append]
  rfl
section
variable {ρ : Type} {A : Nat → Addr} {E : L2.St → XK} {K : PySem.W.Frag} {P : Program} {w : World} {Γ : Ctx} {c : Res ρ} {κ : Ctx → Vo → Res ρ → Prop} {tk tv : TE} {tt : TT} {g : TG} {wi : TI} {vs : List Nat} {κ' α β : Type} {n : Nat} [DecidableEq κ']
/-- what a turn of it does -/
def DTurn (K : PySem.W.Frag) (A : Nat → Addr) (g : TG) (tt : TT) (tk tv : TE) (vs : List Nat) (t : α → Pv) (tq : κ' → Pv) (u : β → Pv) (Γ : Ctx) (f : α → Res (Option (κ' × β))) : Prop :=
  ∀ x, WG (valsC (wipeC Γ vs)) g (t x) fun Γ2 => WT A ET Γ2 tt (f x) fun Γ3 b c3 => ∃ m : Res (Option (κ' × β)), c3 = (if b = true then m else .ok none) ∧
    (WX A ET Γ3 tk m fun Γ4 V c4 => ∃ y, V = .val (tq y) ∧ WX A ET Γ4 tv c4 fun Γ5 V5 c5 => ∃ z, V5 = .val (u z) ∧ c5 = .ok (some (y, z)))
theorem dcU_at {tq : κ' → Pv} [N : NE K tq (n + 1)] (t : α → Pv) (u : β → Pv) (href : ∀ (x : κ') S H v, (tq x).p S H v → ∃ b, v = .ref b) (gk : GK g vs) {F : Fr} {T : Res ρ → Prop} {S : Fz} {σ : L2.St} {H : Hp} {Q : VK} (O : Ok0 A (E σ) F T)
      (h : ∀ Rr : It → Hp → Prop, (∀ Γ1 ps c1, (∃ (f : α → Res (Option (κ' × β))) (xs : List α) (k : List (κ' × β) → Res ρ), ps = xs.map t ∧ c1 = (pml f xs).bind k ∧ DTurn K A g tt tk tv vs t tq u Γ1 f ∧ ∀ ys, κ Γ1 (.own (wDn K P w tq u (dof ys))) (k ys)) →
        ∀ S' H' J, Rel F Γ1 S' σ H' → Le S H S' H' → T c1 → ItOk F J ps S' H' → Rr J H') → wi σ H Rr)
      (k : ∀ Γ' V c', κ Γ' V c' → ∀ S' H' v, Rel F Γ' S' σ H' → Le S H S' H' → V.is F Γ' σ S' H' v → T c' → Q v H') : Sl.tDcN (VN P w) (KyOf K tq) wi g tt tk tv vs σ H Q := by
  refine h _ fun Γ1 ps c1 h1 S1 H1 J R1 l1 hc1 it D hD => ?_
  obtain ⟨f, xs, kk, rfl, rfl, turn, hk⟩ := h1
  have hD0 : ¬ S1 D := R1.fr.nfz hD
  have RV := (R1.wipe vs).vals
  have hlen : xs.length ≤ sizeLine := by have := it.1; rwa [List.length_map] at this
  obtain ⟨w1, w2, w3⟩ := it.walk
  rw [List.length_map] at w1 w2 w3
  refine ⟨xs.length, fun i H' => ∃ S', FrOk (F.at S1 H1 fun _ => False) S' H' ∧ Le S1 H1 S' H' ∧ ¬ S' D ∧ ∃ acc ys, H' D = some (Sl.dN (VN P w) D acc) ∧ NdOk K S' H' tq u acc (dof ys) ∧ acc.length ≤ i ∧ T ((pml f (xs.drop i)).bind fun q => kk (ys ++ q)), ?_, ?_, ?_⟩
  · exact ⟨S1, ⟨fun a o h _ => by rw [upd_ne (ne_of_none h hD)]; exact h, fun a h => .inl h, fun a h => h, fun a h => upd_some h, fun a h => upd_some (R1.fr.sd a h)⟩, le_new hD, hD0, [], [], upd_same, trivial, Nat.zero_le _, hc1⟩
  · rintro H2 ⟨S2, f2, l2, n2, acc, ys, a1, a2, a3, hc2⟩
    refine ⟨w2 H2 ⟨S2, l2, comp0 R1.fr f2⟩, ?_⟩
    rw [List.drop_length] at hc2
    refine k _ _ _ (hk ys) S2 H2 _ (R1.back l2 f2) (l1.trans l2) ⟨D, _, rfl, a1, ⟨D, acc, rfl, a2, Nat.le_trans a3 hlen⟩, n2, .inr (R1.fr.fresh hD), fun z => z.dom R1 hD⟩ ?_
    simpa [pml] using hc2
  · rintro i hi H2 ⟨S2, f2, l2, n2, acc, ys, a1, a2, a3, hc2⟩
    refine ⟨w1 i H2 hi ⟨S2, l2, comp0 R1.fr f2⟩, fun x H3 y => ?_⟩
    obtain ⟨P', hP, hal, hp⟩ := w3 i H2 x H3 hi ⟨S2, l2, comp0 R1.fr f2⟩ y
    obtain ⟨q, hq, rfl⟩ := map_at hP
    obtain ⟨R3, l3⟩ := (RV.into l2 f2.sd fun _ => False).alloc hal
    rw [pml_drop hq, bind_assoc] at hc2
    refine gk.mono _ _ _ _ _ ?_ (gk.keep _ _ _ _ (turn q _ S2 (L2.wipe σ vs) H3 x (fun σ4 H4 => H4 = H3 ∧ ∃ Γ4, Rel (F.at S2 H2 fun _ => False) Γ4 S2 σ4 H4 ∧ WT A ET Γ4 tt (f q) fun Γ3 b c3 => ∃ m : Res (Option (κ' × β)), c3 = (if b = true then m else .ok none) ∧
      (WX A ET Γ3 tk m fun Γ4 V c4 => ∃ y, V = .val (tq y) ∧ WX A ET Γ4 tv c4 fun Γ5 V5 c5 => ∃ z, V5 = .val (u z) ∧ c5 = .ok (some (y, z)))) R3 (hp S2 l2 (comp0 R1.fr f2)) fun Γ4 h4 σ4 R4 => ⟨rfl, Γ4, R4, h4⟩))
    rintro σ4 H4 ⟨⟨k1, _⟩, rfl, Γ4, R4, h4⟩
    refine ⟨k1.trans (wipe_sub fun _ h => h), ?_⟩
    have still : ∀ S6 H6, FrOk (F.at S2 H2 fun _ => False) S6 H6 → H6 D = some (Sl.dN (VN P w) D acc) ∧ ¬ S6 D ∧ FrOk (F.at S1 H1 fun _ => False) S6 H6 := fun S6 H6 f6 => ⟨f6.kp D _ a1 fun z => z, fun z => by
      rcases f6.fz D z with h | h | h
      · exact n2 h
      · rw [show H2 D = none from h] at a1; cases a1
      · exact h, FrOk.comp (F := F.at S1 H1 fun _ => False) f2 f6 fun _ z => z.elim⟩
    refine h4 _ (fun m => T (m.bind fun r => ((pml f (xs.drop (i + 1))).bind fun q => .ok (r.toList ++ q)).bind fun q => kk (ys ++ q))) S2 σ4 H4 _ ⟨O.nb, fun e z S' H' f => erT A⟩ R4 hc2 fun Γ5 b c5 h5 S5 H5 R5 l5 hc5 => ?_
    obtain ⟨m, rfl, h5⟩ := h5
    refine ⟨fun eb => ?_, fun eb => ?_⟩
    · subst eb
      rw [if_neg (by simp)] at hc5
      obtain ⟨d6, n6, f6⟩ := still S5 H5 R5.fr
      refine ⟨S5, f6, (l2.trans l3).trans l5, n6, acc, ys, d6, a2.up (l3.trans l5), by omega, ?_⟩
      simpa [bind_assoc] using hc5
    · subst eb
      rw [if_pos rfl] at hc5
      refine h5 _ (fun m => T (m.bind fun r => ((pml f (xs.drop (i + 1))).bind fun q => .ok (r.toList ++ q)).bind fun q => kk (ys ++ q))) S5 σ4 H5 _ ⟨O.nb, fun e z S' H' f => erT A⟩ R5 hc5 fun Γ6 V c6 h6 S6 H6 v6 R6 l6 hv6 hc6 => ?_
      obtain ⟨y6, rfl, h6⟩ := h6
      refine h6 _ (fun m => T (m.bind fun r => ((pml f (xs.drop (i + 1))).bind fun q => .ok (r.toList ++ q)).bind fun q => kk (ys ++ q))) S6 σ4 H6 _ ⟨O.nb, fun e z S' H' f => erT A⟩ R6 hc6 fun Γ7 V7 c7 h7 S7 H7 v7 R7 l7 hv7 hc7 => ?_
      obtain ⟨z7, rfl, rfl⟩ := h7
      obtain ⟨d7, n7, f7⟩ := still S7 H7 R7.fr
      have hy := (tq y6).up l7 hv6
      obtain ⟨b, rfl⟩ := href _ _ _ _ hy
      have l27 : Le S2 H2 S7 H7 := ((l3.trans l5).trans l6).trans l7
      have la : Le S7 H7 S7 (upd H7 D (Sl.dN (VN P w) D (Sl.putN acc (N.enc y6) b v7))) := le_mut d7 n7 rfl
      refine ⟨acc, N.enc y6, b, rfl, d7, (a2.up l27).key, ⟨S7, y6, rfl, hy⟩, Nat.lt_of_le_of_lt a3 (Nat.lt_of_lt_of_le hi hlen), S7, ⟨fun a o h q => by rw [upd_ne (ne_of_none h hD)]; exact f7.kp a o h q, f7.fz, f7.le, fun a h => upd_some (f7.dm a h), fun a h => upd_some (f7.sd a h)⟩, (l2.trans l27).trans la, n7, _, ys ++ [(y6, z7)], upd_same, ?_, Nat.le_trans Sl.putN_len (by omega), ?_⟩
      · rw [dof_snoc]
        exact ((a2.up l27).put hy hv7).up la
      · simpa [bind_assoc] using hc7
theorem wx_dcU {tq : κ' → Pv} [N : NE K tq (n + 1)] (t : α → Pv) (u : β → Pv) (href : ∀ (x : κ') S H v, (tq x).p S H v → ∃ b, v = .ref b) (gk : GK g vs)
    (h : WI A E Γ wi c fun Γ1 ps c1 => ∃ (f : α → Res (Option (κ' × β))) (xs : List α) (k : List (κ' × β) → Res ρ), ps = xs.map t ∧ c1 = (pml f xs).bind k ∧ DTurn K A g tt tk tv vs t tq u Γ1 f ∧ ∀ ys, κ Γ1 (.own (wDn K P w tq u (dof ys))) (k ys)) :
    WX A E Γ (Sl.tDcN (VN P w) (KyOf K tq) wi g tt tk tv vs) c κ := fun F T S σ H Q O R hc k => dcU_at t u href gk O (fun Rr hh => h F T S σ H Rr O R hc hh) k
/-- over a dict that stands -/
theorem wx_dcN {n' : Nat} {i : Nat} {tq : κ' → Pv} [N : NE K tq (n + 1)] [DecidableEq α] {t : α → Pv} [N' : NE K t (n' + 1)] {γ : Type} {u0 : γ → Pv} {u : β → Pv} (href : ∀ (x : κ') S H v, (tq x).p S H v → ∃ b, v = .ref b) (gk : GK g vs) (d : List (α × γ)) (hg : Γ[i]? = some (.val (yDn K P w t u0 d)))
    {f : α → Res (Option (κ' × β))} {k : List (κ' × β) → Res ρ} (hc : c = (pml f (dkeys d)).bind k) (hb : DTurn K A g tt tk tv vs t tq u Γ f) (hk : ∀ ys, κ Γ (.own (wDn K P w tq u (dof ys))) (k ys)) :
    WX A E Γ (fun σ H Q => tLockE (Sl.tDcN (VN P w) (KyOf K tq) (Sl.iKeysN (VN P w) (tVar i)) g tt tk tv vs) σ H Q ∨ Sl.tDcN (VN P w) (KyOf K tq) (Sl.iKeysN (VN P w) (tVar i)) g tt tk tv vs σ H Q) c κ := fun F T S σ H Q O R hT kk => by
  subst hc
  obtain ⟨v, e, a, b, xs, rfl, hs, hr, hp, hl⟩ := R.val i _ hg
  have nh : ¬ Held Γ σ a := fun ⟨j, b, O', h1, h2⟩ => by
    obtain ⟨a', o, e1, e2, e3, e4, _⟩ := R.own j b O' h1
    rw [h2] at e1; cases e1
    exact e4 hs
  rcases hr with hr | ⟨z, hr⟩
  · refine .inl ⟨a, _, hr, trivial, fun od => ?_⟩
    have RL := R.lock (od := od) hr hs ndn.1 ndn.2
    have l : Le S H S (upd H a (.frz od (Sl.dN (VN P w) b xs))) := le_lock hr ndn.1 ndn.2
    refine dcU_at (A := A) (E := ET) (K := K) (F := F.at S (upd H a (.frz od (Sl.dN (VN P w) b xs))) (Held Γ σ)) (T := T) (S := S) (κ := fun Γ2 V c2 => Γ2 = Γ ∧ ∃ ys, V = .own (wDn K P w tq u (dof ys)) ∧ c2 = k ys) t u href gk ⟨O.nb, fun e z S' H' f => erT A⟩
      (fun Rr hh => ⟨_, e, a, b, od, xs, rfl, upd_same, hh _ _ _ ⟨f, dkeys d, k, rfl, rfl, hb, fun ys => ⟨rfl, ys, rfl, rfl⟩⟩ _ _ _ RL Le.refl hT (itn_ok upd_same nh (hp.up l) hl)⟩)
      fun Γ2 V c2 h2 S2 H2 v R2 l2 hv hc2 => ?_
    obtain ⟨rfl, ys, rfl, rfl⟩ := h2
    obtain ⟨q1, q2, q3⟩ := R.unlock hr hs ndn.1 ndn.2 R2
    exact ⟨q1, kk _ _ _ (hk ys) S2 _ v q3 ((l.trans l2).trans q2) (is_unlock R hr hs ndn.1 ndn.2 R2 hv) hc2⟩
  · refine .inr ?_
    refine dcU_at (A := A) (E := ET) (K := K) (F := F.at S H (Held Γ σ)) (T := T) (S := S) (κ := fun Γ2 V c2 => Γ2 = Γ ∧ ∃ ys, V = .own (wDn K P w tq u (dof ys)) ∧ c2 = k ys) t u href gk ⟨O.nb, fun e z S' H' f => erT A⟩
      (fun Rr hh => ⟨_, e, a, b, z, xs, rfl, hr, hh _ _ _ ⟨f, dkeys d, k, rfl, rfl, hb, fun ys => ⟨rfl, ys, rfl, rfl⟩⟩ _ _ _ R.enter Le.refl hT (itn_ok hr nh hp hl)⟩)
      fun Γ2 V c2 h2 S2 H2 v R2 l2 hv hc2 => ?_
    obtain ⟨rfl, ys, rfl, rfl⟩ := h2
    exact kk _ _ _ (hk ys) S2 _ v (R.leave R2) l2 (is_leave R hv) hc2
end
section
variable {ρ : Type} {A : Nat → Addr} {E : L2.St → XK} {K : PySem.W.Frag} {P : Program} {w : World} {Γ : Ctx} {c : Res ρ} {κ : Ctx → Vo → Res ρ → Prop} {te tke tve : TE} {κ' α : Type}
instance {K : PySem.W.Frag} : HasTy K (fun _ : Unit => yNon) "NoneType" := ⟨fun x S H v h => h ▸ .base .non⟩
end
section
variable {ρ : Type} {A : Nat → Addr} {E : L2.St → XK} {K : PySem.W.Frag} {Γ : Ctx} {c : Res ρ} {κ : Ctx → Vo → Res ρ → Prop}
/-! sorted(xs), ints -/
theorem ints_psOk {S : Fz} {H : Hp} : ∀ xs : List Int, PsOk S H (xs.map V.int) (xs.map yInt)
  | [] => trivial
  | _ :: xs => ⟨rfl, ints_psOk xs⟩
end
end Mi
namespace Sl
open PySem PySem.Spec PyProof.Rows L2
section
variable {X : Cx}
/-- y = {..} over a dict that is locked meanwhile, or stands -/
theorem ps_setOr {st : Stmt} {t : TE} {i : Nat} (h : PS X st (tAsg t (gName i))) : PS X st (tAsg (fun σ H Q => tLockE t σ H Q ∨ t σ H Q) (gName i)) :=
  ⟨fun pins s σ H D I q => q.elim ((ps_lock h).run pins s σ H D I) (h.run pins s σ H D I)⟩
theorem sw_dict {kx vx : Expr} {gs : List Comprehension} {scope : Scope} {pos py : Pos} {y : Str} {l : Nat} {env : Env} (hk : env.scope.kind = .function) (hy : env.scope.names.lookup y = some .local) (hl : (py.line == pos.line) = true)
    (ha : (scope.names.any fun (n, k) => n == y && (k == .local || k == .cell)) = false) : swapsWith (.DictComp kx vx gs scope pos) (some (.Name y py)) l env = pure true := by
  have h1 : (env.blockKind == ScopeKind.function) = true := by unfold Env.blockKind; rw [hk]; rfl
  have h2 : (env.kindOf y == some NameKind.local) = true := by rw [show env.kindOf y = some .local from hy]; rfl
  show (pure (env.blockKind == ScopeKind.function && env.kindOf y == some NameKind.local && py.line == pos.line && !(scope.names.any fun (n, k) => n == y && (k == .local || k == .cell))) : Sem Bool) = pure true
  rw [h1, h2, hl, ha]
  rfl
end
end Sl
namespace Sl.DS
open PySem PySem.W PySem.Calls PyProof.Rows PyProof.V PySem.Spec
section
variable {prog : Program} {w : World} {K : Type} [DecidableEq K] {knd : PySem.KeyKind prog w K} {A : Around} {E : Value → Shared → Prop} {s : Shared}
/-- the entries of a dict and what they tell -/
structure Tells (knd : PySem.KeyKind prog w K) (es : Array DictEntry) (kvs : List (K × Value)) : Prop where
  keys : KeysOf knd es
  pairs : Pairs knd es.toList kvs
  once : (kvs.map (·.1)).Nodup
theorem Tells.size {es : Array DictEntry} {kvs : List (K × Value)} (t : Tells knd es kvs) : es.size = kvs.length := by
  rw [← t.pairs.length, Array.length_toList]
theorem Tells.find {es : Array DictEntry} {kvs : List (K × Value)} (t : Tells knd es kvs) (k : K) : (es.findIdx? fun e => knd.is k e.key) = kvs.findIdx? fun kv => decide (kv.1 = k) := by
  rw [← t.pairs.findIdx k]
  cases es
  simp
/-- what putting a pair does to the entries -/
def putE (knd : PySem.KeyKind prog w K) (es : Array DictEntry) (k : K) (key v : Value) : Array DictEntry :=
  match es.findIdx? fun e => knd.is k e.key with
  | some i => es.modify i fun e => { e with val := v }
  | none => es.push ⟨knd.hash k, key, v⟩
theorem Tells.put {es : Array DictEntry} {kvs : List (K × Value)} (t : Tells knd es kvs) {k : K} {key : Value} (hkey : knd.is k key = true) (v : Value) : Tells knd (putE knd es k key v) (stored kvs k v) := by
  have f := t.find k
  unfold putE
  cases e : es.findIdx? fun e => knd.is k e.key with
  | some i =>
    have there : kvs.any (fun kv => decide (kv.1 = k)) = true := any_of_findIdx_some (f ▸ e)
    have e' : (es.toList.findIdx? fun e => knd.is k e.key) = some i := by rw [t.pairs.findIdx k, ← f, e]
    rw [stored, if_pos there]
    refine ⟨t.keys.modify i v, ?_, (keys_map_store kvs k v).symm ▸ t.once⟩
    have p := t.pairs.modify t.once e' v
    cases es
    simpa using p
  | none =>
    have no : k ∉ kvs.map (·.1) := not_mem_of_findIdx_none (f ▸ e)
    have away : ¬ kvs.any (fun kv => decide (kv.1 = k)) = true := fun y => by
      obtain ⟨kv, h1, h2⟩ := List.any_eq_true.mp y
      exact no (of_decide_eq_true h2 ▸ List.mem_map_of_mem h1)
    rw [stored, if_neg away]
    refine ⟨t.keys.push hkey v, ?_, ?_⟩
    · rw [Array.toList_push]
      exact t.pairs.append hkey (knd.hash k) v
    · rw [List.map_append]
      exact List.nodup_append.mpr ⟨t.once, List.nodup_cons.mpr ⟨List.not_mem_nil, List.nodup_nil⟩, fun a ha b hb e => no (by rw [show a = k from e.trans (List.mem_singleton.mp hb)] at ha; exact ha)⟩
end
end Sl.DS
namespace Sl
open PySem PySem.Spec PyProof.Rows L2
/-! ### {**d, k: v} -/
end Sl
namespace Mi
open PySem PySem.Spec PyProof.Rows L2
open Sl (isTup sz szl slt)
/-! ### {**d, k: v} -/
end Mi
namespace Mi
open PySem PySem.Spec PyProof.Rows L2
open Sl (isTup sz szl slt)
end Mi
namespace Mi
open PySem PySem.Spec PyProof.Rows L2
open Sl (isTup sz szl slt)
open RT (nolen_lri hint_lri vals_rev)
/-! ### list(reversed(xs)) -/
end Mi
namespace Mi
open PySem PySem.Spec PyProof.Rows L2
open Sl (isTup sz szl slt)
/-! ### a walk of a list of one's own -/
def pinF (F : Fr) (i : Nat) (a : Addr) : Fr := { F with ad := fun j => if j = i then a else F.ad j }
section
variable {F : Fr} {Γ : Ctx} {S : Fz} {σ : L2.St} {H : Hp} {a : Addr} {i : Nat} {O : Ow} {b : Bool}
theorem Rel.pin (R : Rel F Γ S σ H) (hg : Γ[i]? = some (.own b O)) (hs : σ[i]? = some (some (.ref a))) : Rel (pinF F i a) (Γ.set i (.own true O)) S σ H where
  fr := ⟨R.fr.kp, R.fr.fz, R.fr.le, R.fr.dm, R.fr.sd⟩
  len := by rw [List.length_set]; exact R.len
  val := fun j P h => by
    rcases set_at h with ⟨_, z⟩ | ⟨_, z⟩
    · cases z
    · exact R.val j P z
  own := fun j b' O' h => by
    rcases set_at h with ⟨rfl, z⟩ | ⟨n, z⟩
    · cases z
      obtain ⟨a', o, e1, e2, e3, e4, e5, _⟩ := R.own j b O hg
      rw [hs] at e1; cases e1
      exact ⟨a, o, hs, e2, e3, e4, e5, fun _ => (if_pos rfl).symm⟩
    · obtain ⟨a', o, e1, e2, e3, e4, e5, e6⟩ := R.own j b' O' z
      exact ⟨a', o, e1, e2, e3, e4, e5, fun h => (e6 h).trans (if_neg n).symm⟩
  sep := fun j k b1 b2 O1 O2 c h1 h2 => by
    have q : ∀ {j : Nat} {b1 : Bool} {O1 : Ow}, (Γ.set i (.own true O))[j]? = some (.own b1 O1) → ∃ b O, Γ[j]? = some (.own b O) := fun h => by
      rcases set_at h with ⟨rfl, _⟩ | ⟨_, z⟩
      · exact ⟨_, _, hg⟩
      · exact ⟨_, _, z⟩
    obtain ⟨_, _, q1⟩ := q h1
    obtain ⟨_, _, q2⟩ := q h2
    exact R.sep j k _ _ _ _ c q1 q2
end
/-! ### xs.index(x) -/
section
variable {ρ : Type} {A : Nat → Addr} {E : L2.St → XK} {K : PySem.W.Frag} {Γ : Ctx} {c : Res ρ} {Δ : Dl ρ} {κ : Ctx → Vo → Res ρ → Prop} {te ty : TE}
/-! ### mixed data that may be None -/
def Dy.opt {α : Type} (o : Option α) (f : α → Dy) : Dy := match o with
  | none => .non
  | some y => f y
instance {α : Type} {t : α → Pv} [D : ToDy K t] : ToDy K (yOpt t) := ⟨fun x => Dy.opt x D.to, D.n, fun x => by
  cases x with
  | none => simp [Dy.opt, encDy, PyData.depth]
  | some y => exact D.dep y, fun x S H v h => by
  cases x with
  | none => exact h
  | some y => exact D.ok y S H v h⟩
end
/-! ### the values behind a star -/
end Mi
namespace Sl
open PySem PySem.Spec PyProof.Rows L2
/-! ### o + t: o of a class of the program's, t of a type that adds only as a sequence -/
/-- where the left side's own method is tried first and nothing of the right side's is -/
theorem leftOnly {M : Model} {A : Around} {op : Operator} {x : Addr} {b tb : Value} {C : Addr} {Q : Value → Shared → Prop} {E : Value → Shared → Prop} {s : Shared}
    (Tx : PySem.W.Looks M s.heap (typeOf (.ref x)) (.ref C)) (Tb : PySem.W.Looks M s.heap (typeOf b) tb) (ne : (Value.ref C == tb) = false)
    (Lx : PySem.W.Looks M s.heap (fillsNumberSlot (.ref C) op.info.2) true) (Lb : PySem.W.Looks M s.heap (fillsNumberSlot tb op.info.2) false)
    (h : wpAny M A (tryMethod (.ref x) (PySem.dunder op.info.2) b) (fun r s' => ∃ v, r = some v ∧ Q v s') E s) : wpAny M A (binaryOp op (.ref x) b) Q E s := by
  unfold binaryOp
  apply wpAny_holding
  apply wpAny_bind
  unfold binaryOp1
  apply wpAny_bind
  apply Tx.here
  apply wpAny_bind
  apply Tb.here
  apply wpAny_bind
  apply Lx.here
  simp only [ne, Bool.false_eq_true, if_false]
  apply wpAny_bind
  apply Lb.here
  simp only [Bool.and_false, Bool.false_and, Bool.false_eq_true, if_false, Bool.not_false]
  apply wpAny_bind
  apply wpAny_pure
  simp only [Bool.false_eq_true, if_false, if_true]
  apply wpAny_bind
  refine wpAny_mono h ?_ fun _ _ e => e
  rintro _ s' ⟨v, rfl, q⟩
  exact wpAny_pure (wpAny_pure q)
/-- what the text must say of the class beside the tuples -/
structure SeqT (K : PySem.W.Frag) (C : Addr) (op : Operator) (T : String) : Prop where
  first : PySem.W.selfFirst K C = true
  h1 : ∃ fo, PySem.W.findIn K (.type T) (PySem.dunder op.info.2) = some fo ∧ (fo.isSome && !PySem.isSeqSlot fo) = false
  h2 : PySem.W.findIn K (.type T) (PySem.dunderR op.info.2) = some none
/-- the operand is a tuple -/
def tTupB (K : PySem.W.Frag) (tb : TE) : TE := fun σ H Q => tb σ H fun y H1 => (∃ t xs, y = .ref t ∧ SqT K H1 t xs) ∧ Q y H1
theorem pe_opT {X : Cx} {CX : CXT} {k : Nat} {C f : Addr} {fd : FuncData} {ps : List Str} {sp : Sp} {E : L2.St → XK} {op : Operator} {a b : Expr} {ta tb : TE} {pos : Pos} (B : SeqT X.K C op "tuple") (M : Meth X.K C (PySem.dunder op.info.2) f) (F : FnOk X.prog X.w X.K X.mg X.base CX k f fd ps sp) (hr : Room k X.A) (hb : Binds X.K fd ps [])
    (hx : ∀ σ, PassesAt CX X σ (E σ)) (ha : PE X a ta) (hb2 : PE X b tb) : PE X (.BinOp a op b pos) (tOpO C sp E ta (tTupB X.K tb)) where
  run pins s σ H Q I h := by
    apply wpAny_BinOp
    refine thn (ha.run pins s σ H _ I h) ?_
    rintro v s1 ⟨x, H1, I1, rx, q1⟩
    refine thn (hb2.run pins s1 σ H1 _ I1 q1) ?_
    rintro u s2 ⟨y, H2, I2, ry, ⟨t, xs, rfl, ht⟩, o, dx, fs, rfl, ea, q⟩
    cases rx; cases ry
    obtain ⟨_, O, _⟩ := ins_get I2.hok ea
    obtain ⟨_, J, _⟩ := O.look
    obtain ⟨_, Fm⟩ := I2.fr
    obtain ⟨_, _, pt, _⟩ := I2.tuple ht
    obtain ⟨ot, et, ct, _⟩ := pt
    have Tb : PySem.W.Looks (model X.prog X.w) s2.heap (typeOf (.ref t)) (.type "tuple") := fun A Q E s' kp q => wpAny_typeOf (T := "tuple") ⟨ot, kp _ _ et, ct⟩ q
    obtain ⟨cd, rest, hcd, hm⟩ := PySem.W.ksp_first B.first
    obtain ⟨fo, b1, b2⟩ := B.h1
    have Lb := PySem.W.ksp_fillsT (M := model X.prog X.w) I2.kIn b1 B.h2
    rw [b2, Bool.false_or] at Lb
    refine leftOnly J.type Tb rfl (PySem.W.fills_K I2.kIn hcd hm M.at_) Lb (PySem.W.ksp_try I2.kIn J M.at_ M.fn ?_)
    exact wpAny_mono (own_run (dvs := []) F hr I2.env0 hb .nil (fun e s' c => hx σ pins H2 s2 e s' I2 c) I2 (us := [.ref o, .ref t]) (vs := [.ref o, .ref t]) (.cons rfl (.cons rfl .nil)) q) (fun w s' hv => cmp_back hv) fun _ _ z => z
end Sl
namespace Sl
open PySem PySem.Spec PyProof.Rows L2
/-- iter(v) is what pyIter gives -/
theorem iter_one {prog : Program} {w : World} {A : Around} {E : Value → Shared → Prop} {s : Shared} {v : Value} {Q : Value → Shared → Prop} (h : ∀ A', wpAny (model prog w) A' (pyIter v) Q E s) : wpAny (model prog w) A (call (.builtin "iter") [v]) Q E s := by
  have form : Builtin.«iter» ⟨[v], []⟩ = (do let it ← pyIter v; ret it) := by kernel_rfl!
  apply Calls.call_function_entry _ _ PySem.W.kdk_entry_iter (PySem.W.kdk_args_iter v)
  · rw [form]
    exact wpAny_bind (thn (h _) fun it s' q => wpAny_pure ⟨it, rfl, q⟩)
  · decide +kernel
  · decide +kernel
theorem call_iterV {X : Cx} : CallR X (.builtin "iter") (rIterT X.K X.s_0.heap.objs.size) := fun pins s σ H xs us Q I r ⟨l, zs, e, hq, q⟩ => by
  subst e
  cases Vals.ref1 r
  obtain ⟨_, _, tup, _⟩ := I.tuple hq
  exact iter_one fun _ => wpAny_pyIter_tuple tup ⟨.ref s.heap.objs.size, _, I.laid (t' := s.toks) (fun _ _ g => Heap.get?_push_of_some _ g) (Nat.le_refl _) (tiO_ok (Heap.get?_push_size _ rfl)), rfl, q _ (I.hok.fresh (Nat.le_refl _)) I.sz⟩
theorem fnIn_of {K : PySem.W.Frag} {x qual : Str} {st : Stmt} {f : Addr} {fd : FuncData} (F : Fun K x qual st f fd) : PySem.W.fnIn K f = true := by
  obtain ⟨oc, od, kV, doc, pm, an, cdv, ct, osl, rfl, lk, hcd⟩ := F.ex
  unfold PySem.W.fnIn
  rw [lk]
end Sl
namespace Mi
open PySem PySem.Spec PyProof.Rows L2
open Sl (isTup sz szl slt)
/-! ### objects with fields -/
def putPv (f : Str) (P : Pv) : List (Str × Pv) → List (Str × Pv)
  | [] => [(f, P)]
  | (g, x) :: r => if g = f then (g, P) :: r else (g, x) :: putPv f P r
theorem FlOk.put {S : Fz} {H : Hp} {f : Str} {v : V} {P : Pv} (hp : P.p S H v) : ∀ {vs : List (Str × V)} {fs : List (Str × Pv)}, FlOk S H vs fs → FlOk S H (putF f v vs) (putPv f P fs)
  | [], [], _ => ⟨⟨rfl, hp⟩, trivial⟩
  | [], _ :: _, h => False.elim h
  | _ :: _, [], h => False.elim h
  | (n, v') :: vs, (n', P') :: fs, h => by
    have e : n = n' := h.1.1
    subst e
    unfold putF putPv
    by_cases z : n = f
    · rw [if_pos z, if_pos z]; exact ⟨⟨rfl, hp⟩, h.2⟩
    · rw [if_neg z, if_neg z]; exact ⟨h.1, FlOk.put hp h.2⟩
theorem FlOk.len {S : Fz} {H : Hp} : ∀ {vs : List (Str × V)} {fs : List (Str × Pv)}, FlOk S H vs fs → vs.length = fs.length
  | [], [], _ => rfl
  | [], _ :: _, h => False.elim h
  | _ :: _, [], h => False.elim h
  | _ :: _, _ :: _, h => congrArg Nat.succ h.2.len
/-- an object of one's own, as far as its fields are set -/
def wIns (C : Addr) (fs : List (Str × Pv)) : Ow where
  w S H o := ∃ dx vs, o = .ins C dx vs ∧ FlOk S H vs fs
  up l := fun ⟨dx, vs, e, h⟩ => ⟨dx, vs, e, h.up l⟩
  nt := fun ⟨dx, vs, e, _⟩ => by rw [e]; rfl
  pv := pObj C fs
  to := fun hs ha ⟨dx, vs, e, h⟩ => ⟨_, dx, vs, rfl, hs, by rw [← e]; exact ha, h⟩
theorem ars_up {S S' : Fz} {H H' : Hp} (l : Le S H S' H') : ∀ {vs : List V} {ps : List Pv}, ArsOk S H vs (ps.map Ar.val) → ArsOk S' H' vs (ps.map Ar.val)
  | [], [], _ => trivial
  | [], _ :: _, h => False.elim h
  | _ :: _, [], h => False.elim h
  | v :: vs, P :: ps, h => ⟨P.up l h.1, ars_up (vs := vs) (ps := ps) l h.2⟩
section
variable {ρ : Type} {A : Nat → Addr} {E : L2.St → XK} {K : PySem.W.Frag} {Γ : Ctx} {c : Res ρ} {Δ : Dl ρ} {κ : Ctx → Vo → Res ρ → Prop} {te ta tb : TE} {tr : TA} {i : Nat} {C : Addr} {pre : List Ar → Cl → Prop} {E1 : XK} {P : Pv}
/-- self.f = e -/
theorem ws_fset {f : Str} {b0 : Bool} {fs0 : List (Str × Pv)} (hcl : Cls K C) (hn : NoAttr K C f) (hg : Γ[i]? = some (.own b0 (wIns C fs0))) (h : WX A E Γ te c fun Γ1 V c1 => ∃ b fs P, V = .val P ∧ Γ1[i]? = some (.own b (wIns C fs)) ∧ fs.length < 900 ∧ Δ.nx (Γ1.set i (.own b (wIns C (putPv f P fs)))) c1) :
    WS A E Γ (sFld K (tVar i) te f) c Δ := fun F T S σ H D O R hc d => by
  refine h F T S σ H _ (O σ) R hc fun Γ1 V c1 ⟨b, fs, P, e, hg1, hl, h1⟩ S1 H1 v R1 l1 p1 hc1 => ?_
  subst e
  obtain ⟨a, _, e1, e2, ⟨dx, vs, rfl, hf⟩, e4, _, _⟩ := R1.own i b _ hg1
  have lm := le_mut (o' := .ins C dx (putF f v vs)) e2 e4 rfl
  have hw : (wIns C (putPv f P fs)).w S1 (upd H1 a (.ins C dx (putF f v vs))) (.ins C dx (putF f v vs)) := ⟨dx, _, rfl, (FlOk.put p1 hf).up lm⟩
  obtain ⟨l2, R2⟩ := R1.mut (O' := wIns C (putPv f P fs)) (o' := .ins C dx (putF f v vs)) hg1 e1 fun _ _ _ => hw
  exact ⟨_, e1, a, C, dx, vs, rfl, e2, hcl, hn, by rw [hf.len]; omega, d.nx _ _ h1 S1 σ _ R2 (l1.trans l2) hc1⟩
/-- a field of an object of one's own -/
theorem wx_fldO {f : Str} {b : Bool} {fs : List (Str × Pv)} (hcl : Cls K C) (hn : NoAttr K C f) (hg : Γ[i]? = some (.own b (wIns C fs))) (hl : fs.lookup f = some P) (h : κ Γ (.val P) c) : WX A E Γ (tFld K (tVar i) f) c κ := fun F T S σ H Q O R hc k => by
  obtain ⟨a, _, e1, e2, ⟨dx, vs, rfl, hf⟩, _⟩ := R.own i b _ hg
  obtain ⟨v, e, hp⟩ := hf.look hl
  exact ⟨_, e1, a, C, dx, vs, v, rfl, e2, hcl, hn, e, k _ _ _ h S H v R Le.refl hp hc⟩
/-- C(e, ..) -/
theorem wx_make (h : WA A E Γ tr c fun Γ1 gs c1 => ∃ (ps : List Pv) (d : Cl) (k : d.β → Res ρ) (Of : d.β → Ow), gs = vals ps ∧ pre (.io (wIns C []) :: ps.map Ar.val) d ∧ c1 = d.m.bind k ∧ (∀ e, d.m ≠ .err e) ∧ (∀ r, d.os r = [Of r]) ∧ (∀ r, ∃ P, d.V r = .val P ∧ ∀ S H v, P.p S H v → v = .non) ∧ ∀ r, d.m = .ok r → κ Γ1 (.own (Of r)) (k r)) :
    WX A E Γ (tMake C (spM A pre) [] E1 tr) c κ := fun F T S σ H Q O R hc kk => by
  refine h F T S σ H _ O R hc fun Γ1 gs c1 h1 S1 H1 ws R1 l1 p1 hc1 => ?_
  obtain ⟨ps, d, k, Of, rfl, hp, rfl, he, hos, hV, hk⟩ := h1
  intro x dx hx hd ne
  have hx1 : upd H1 dx (.own x) x = none := by rw [upd_ne (Ne.symm ne)]; exact hx
  have R2 : Rel F Γ1 S1 σ (upd (upd H1 dx (.own x)) x (.ins C dx [])) := (R1.new (o := .own x) hd).new hx1
  have l2 : Le S1 H1 S1 (upd (upd H1 dx (.own x)) x (.ins C dx [])) := (le_new hd).trans (le_new hx1)
  have nsx : ¬ S1 x := R1.fr.nfz hx
  have nh : ¬ Held Γ1 σ x := fun z => z.dom R1 hx
  obtain ⟨q1, q2⟩ := ars_vals p1
  have eio : ioAd (.ref x :: ws) (.io (wIns C []) :: ps.map Ar.val) = [x] := by show x :: ioAd ws (ps.map Ar.val) = [x]; rw [q2]
  have q1' : ArsOk S1 (upd (upd H1 dx (.own x)) x (.ins C dx [])) ws (ps.map Ar.val) := ars_up l2 q1
  show spM A pre (.ref x :: (ws ++ [])) _ _ E1
  rw [List.append_nil]
  refine ⟨S1, _, d, hp, ⟨⟨x, _, rfl, upd_same, ⟨dx, [], rfl, trivial⟩, nsx⟩, q1'⟩, by rw [eio]; simp, R2.fr.sd, fun z => by rw [z] at hc1; exact O.nb hc1, fun r hr S' H' v f ho hv => ?_, fun e z => absurd z (he e)⟩
  rw [eio] at f ho
  obtain ⟨P, eP, hP⟩ := hV r
  refine ⟨?_, ?_⟩
  · rw [eP] at hv; exact hP _ _ _ hv
  have fk : ∀ b o, (upd (upd H1 dx (.own x)) x (.ins C dx [])) b = some o → b ≠ x → H' b = some o := fun b o h n => f.kp b o h fun z => n (List.mem_singleton.mp z)
  have l3 : Le S1 (upd (upd H1 dx (.own x)) x (.ins C dx [])) S' H' := .ex f.le fun b u h w => fk b u h fun z => by
    subst z
    rw [upd_same] at h; cases h
    rcases w with w | w
    · exact nsx w
    · cases w
  have fz' : ∀ b, S' b → S1 b ∨ (upd (upd H1 dx (.own x)) x (.ins C dx [])) b = none ∨ b = x := fun b z => (f.fz b z).imp id fun z => z.imp id fun z => List.mem_singleton.mp z
  have R4 : Rel F Γ1 S' σ H' := by
    refine ⟨R2.fr.comp (I := fun b => b ∈ [x]) ⟨f.kp, f.fz, f.le, f.dm, f.sd⟩ fun b z => by rw [List.mem_singleton.mp z]; exact .inr (R1.fr.fresh hx), R2.len, fun i P e => ?_, fun i b O' e => ?_, R2.sep⟩
    · obtain ⟨w, e1, e2⟩ := R2.val i P e
      exact ⟨w, e1, P.up l3 e2⟩
    · obtain ⟨b', u, e1, e2, e3, e4, e5, e6⟩ := R2.own i b O' e
      have n : b' ≠ x := fun z => nh ⟨i, b, O', e, by rw [e1, z]⟩
      exact ⟨b', u, e1, fk b' u e2 n, O'.up l3 e3, fun z => (fz' b' z).elim e4 fun z => z.elim (fun z => by rw [e2] at z; cases z) n, e5, e6⟩
  refine kk _ _ _ (hk r hr) S' H' (.ref x) R4 ((l1.trans l2).trans l3) ?_ (by rw [hr] at hc1; exact hc1)
  rw [hos r] at ho
  obtain ⟨a, o, w1, w2, w3, w4⟩ := osOk_at ho (k := 0) rfl
  cases w1
  exact ⟨x, o, rfl, w2, w3, w4, .inr (R1.fr.fresh hx), nh⟩
/-- o.p, p a property -/
theorem wx_prop (h : WX A E Γ ta c fun Γ1 V c1 => ∃ fs, V = .val (pObj C fs) ∧ RC A E (fun _ vs H Q => spM A pre vs H Q E1) [.val (pObj C fs)] Γ1 c1 κ) : WX A E Γ (tProp C (spM A pre) [] E1 ta) c κ := fun F T S σ H Q O R hc k => by
  refine h F T S σ H _ O R hc fun Γ1 V c1 ⟨fs, e, h1⟩ S1 H1 x R1 l1 p1 hc1 => ?_
  subst e
  obtain ⟨a, dx, vs, rfl, hs, ha, hf⟩ := p1
  exact ⟨a, dx, vs, rfl, ha, h1 F T S1 σ H1 [.ref a] Q O R1 hc1 ⟨⟨a, dx, vs, rfl, hs, ha, hf⟩, trivial⟩ fun Γ' V c' q S' H' v R' l => k Γ' V c' q S' H' v R' (l1.trans l)⟩
/-- len(o) -/
theorem rc_lenO {fs : List (Str × Pv)} (h : RC A E (fun _ vs H Q => spM A pre vs H Q E1) [.val (pObj C fs)] Γ c fun Γ' V c' => ∃ (n : Int) (k' : Unit → Res ρ), V = .val (yInt n) ∧ c' = (guard (0 ≤ n ∧ n ≤ 1000000)).bind k' ∧ κ Γ' (.val (yInt n)) (k' ())) :
    RC A E (fun _ => Sl.rLenO C (spM A pre) E1) [.val (pObj C fs)] Γ c κ := fun F T S σ H vs Q O R hc hg k => by
  match vs, hg with
  | [v], ⟨hv, _⟩ =>
    obtain ⟨a, dx, ws, rfl, hs, ha, hf⟩ := hv
    refine ⟨a, dx, ws, rfl, ha, h F T S σ H [.ref a] _ O R hc ⟨⟨a, dx, ws, rfl, hs, ha, hf⟩, trivial⟩ fun Γ' V c' ⟨n, k', e, ec, q⟩ S' H' v R' l hv hc' => ?_⟩
    subst e; subst ec
    cases hv
    unfold guard at hc'
    by_cases z : 0 ≤ n ∧ n ≤ 1000000
    · rw [if_pos z] at hc'
      obtain ⟨m, rfl⟩ : ∃ m : Nat, n = (m : Int) := ⟨n.toNat, by omega⟩
      exact ⟨m, rfl, by omega, k _ _ _ q S' H' _ R' l rfl hc'⟩
    · rw [if_neg z] at hc'; exact absurd hc' O.nb
/-- x in o -/
theorem rx_inO {b : Bool} {fs : List (Str × Pv)} (h : RC A E (fun _ vs H Q => spM A pre vs H Q E1) [.val (pObj C fs), .val P] Γ c fun Γ' V c' => ∃ q : Bool, V = .val (yBl q) ∧ κ Γ' (.val (yBl (b ^^ q))) c') :
    RX A E (Sl.rInO b C (spM A pre) E1) P (pObj C fs) Γ c κ := fun F T S σ H x y Q O R hc hx hy k => by
  obtain ⟨a, dx, ws, rfl, hs, ha, hf⟩ := hy
  refine ⟨a, dx, ws, rfl, ha, h F T S σ H [.ref a, x] _ O R hc ⟨⟨a, dx, ws, rfl, hs, ha, hf⟩, hx, trivial⟩ fun Γ' V c' ⟨q, e, h1⟩ S' H' v R' l hv hc' => ?_⟩
  subst e
  cases hv
  exact ⟨q, rfl, k _ _ _ h1 S' H' _ R' l rfl hc'⟩
/-- o[k], where it may raise what is waited for -/
def tIxOS (C : Addr) (sp : Sp) (EE : L2.St → XK) (ta tb : TE) : TE := fun σ H Q => ta σ H fun x H1 => tb σ H1 fun y H2 => ∃ a dx fs, x = .ref a ∧ H2 a = some (.ins C dx fs) ∧ sp [.ref a, y] H2 Q (EE σ)
theorem pe_ixOS {X : Cx} {CX : CXT} {k : Nat} {f : Addr} {fd : FuncData} {nps : List Str} {sp : Sp} {EE : L2.St → XK} {a b : Expr} {pos : Pos} (M : Meth X.K C "__getitem__" f) (hf : PySem.W.fnIn X.K f = true) (F : FnOk X.prog X.w X.K X.mg X.base CX k f fd nps sp) (hr : Room (k + 1) X.A) (hb : Binds X.K fd nps []) (hx : ∀ σ, PassesAt CX X σ (EE σ))
    (ha : PE X a ta) (hb2 : PE X b tb) (hsl : ∀ o v, subscripted b true (.ref o) v = runValue (.builtin "lifetime.subscript" ⟨[.ref o, v], []⟩) := by intro _ _; with_unfolding_all rfl) : PE X (.Subscript a b pos) (tIxOS C sp EE ta tb) where
  run pins s σ H Q I h := by
    apply Subscript_
    refine binT ha hb2 I h ?_
    rintro v u s2 x y H2 I2 rx ry ⟨o, dx, fs, rfl, ea, q⟩
    cases rx
    obtain ⟨_, O, _⟩ := ins_get I2.hok ea
    obtain ⟨_, J, _⟩ := O.look
    obtain ⟨_, Fm⟩ := I2.fr
    have run := Sl.own_run (dvs := []) F hr.in1 I2.env0.in1 hb .nil (fun e s' c => hx σ pins H2 s2 e s' I2 c) I2 (us := [.ref o, u]) (vs := [.ref o, y]) (.cons rfl (.cons ry .nil)) q
    exact PySem.W.sub_K Fm I2.ok.mod.kin J M.at_ hf M.fn run (hsl _ _)
theorem wx_ixOS {EE : L2.St → XK} (h : WX A E Γ ta c fun Γ1 V c1 => ∃ fs, V = .val (pObj C fs) ∧ WX A E Γ1 tb c1 fun Γ2 V2 c2 => ∃ P, V2 = .val P ∧ RC A E (fun σ vs H Q => spM A pre vs H Q (EE σ)) [.val (pObj C fs), .val P] Γ2 c2 κ) : WX A E Γ (tIxOS C (spM A pre) EE ta tb) c κ := fun F T S σ H Q O R hc k => by
  refine h F T S σ H _ O R hc fun Γ1 V c1 ⟨fs, e, h1⟩ S1 H1 x R1 l1 p1 hc1 => ?_
  subst e
  obtain ⟨a, dx, vs, rfl, hs, ha, hf⟩ := p1
  refine h1 F T S1 σ H1 _ O R1 hc1 fun Γ2 V2 c2 ⟨P, e, h2⟩ S2 H2 y R2 l2 p2 hc2 => ?_
  subst e
  exact ⟨a, dx, vs, rfl, l2.ins ha hs, h2 F T S2 σ H2 [.ref a, y] Q O R2 hc2 ⟨⟨a, dx, vs, rfl, l2.fz a hs, l2.ins ha hs, hf.up l2⟩, p2, trivial⟩ fun Γ' V c' q S' H' v R' l => k Γ' V c' q S' H' v R' ((l1.trans l2).trans l)⟩
/-- o + e -/
theorem wx_opO {EE : L2.St → XK} (h : WX A E Γ ta c fun Γ1 V c1 => ∃ fs, V = .val (pObj C fs) ∧ WX A E Γ1 tb c1 fun Γ2 V2 c2 => ∃ P, V2 = .val P ∧ RC A E (fun σ vs H Q => spM A pre vs H Q (EE σ)) [.val (pObj C fs), .val P] Γ2 c2 κ) : WX A E Γ (Sl.tOpO C (spM A pre) EE ta tb) c κ := fun F T S σ H Q O R hc k => by
  refine h F T S σ H _ O R hc fun Γ1 V c1 ⟨fs, e, h1⟩ S1 H1 x R1 l1 p1 hc1 => ?_
  subst e
  obtain ⟨a, dx, vs, rfl, hs, ha, hf⟩ := p1
  refine h1 F T S1 σ H1 _ O R1 hc1 fun Γ2 V2 c2 ⟨P, e, h2⟩ S2 H2 y R2 l2 p2 hc2 => ?_
  subst e
  exact ⟨a, dx, vs, rfl, l2.ins ha hs, h2 F T S2 σ H2 [.ref a, y] Q O R2 hc2 ⟨⟨a, dx, vs, rfl, l2.fz a hs, l2.ins ha hs, hf.up l2⟩, p2, trivial⟩ fun Γ' V c' q S' H' v R' l => k Γ' V c' q S' H' v R' ((l1.trans l2).trans l)⟩
/-- for x in o, o.__iter__ an iterator over the tuple in field f -/
def tpF (f : Str) (C : Addr) : Addr → Hp → Addr → Prop := fun a H t => ∃ dx fs, H a = some (.ins C dx fs) ∧ fs.lookup f = some (.ref t)
theorem wi_own {f : Str} {κi : Ctx → List Pv → Res ρ → Prop} (h : WX A E Γ te c fun Γ1 V c1 => ∃ fs ps, V = .val (pObj C fs) ∧ fs.lookup f = some (pTup K ps) ∧ κi Γ1 ps c1) : WI A E Γ (Sl.iOwn K C (tpF f C) te) c κi := fun F T S σ H Q O R hc k => by
  refine h F T S σ H _ O R hc fun Γ1 V c1 ⟨fs, ps, e, hl, h1⟩ S1 H1 x R1 l1 p1 hc1 => ?_
  subst e
  obtain ⟨a, dx, vs, rfl, hs, ha, hf⟩ := p1
  obtain ⟨v, e, hp⟩ := hf.look hl
  obtain ⟨t, ws, rfl, ht, hv, hz⟩ := hp
  exact ⟨a, dx, vs, t, ws, rfl, ha, ⟨dx, vs, ha, e⟩, ht, k _ _ _ h1 S1 H1 _ R1 l1 hc1 (itt_ok ht hv hz)⟩
end
end Mi
namespace Sl
open PySem PySem.Spec PyProof.Rows L2
/-! ### d.items() walked, d.get(k): dicts keyed by tuples -/
section
variable {P : Program} {w : World} {L : Type} [DecidableEq L] {κd : PySem.HeapKind P w L} {G : Hp → L → V → Prop} {K : PySem.W.Frag} {X : Cx}
def aDictN (κd : PySem.HeapKind P w L) : V → Hp → Prop := fun x H => ∃ a c xs, x = .ref a ∧ Rd H a (dN κd c xs)
theorem aDictN_ok : TyOk X "dict" (aDictN κd) := fun _ _ _ _ _ _ I r h => by
  obtain ⟨a, c, xs, rfl, hd⟩ := h
  cases r
  obtain rfl := (dN_eq I.hok hd).symm
  obtain ⟨_, _, _, _, _, ⟨o, ho, hx, _⟩, _⟩ := raw_dN (dN_at I.hok hd)
  exact ⟨⟨o, ho, hx.1⟩, fun b e => by cases e; exact ⟨o, ho, hx.2.1⟩⟩
def rItemsN (κd : PySem.HeapKind P w L) : V → List V → Hp → VK → Prop := fun x xs H Q => ∃ (a c : Addr) (es : EnL L), x = .ref a ∧ xs = [] ∧ Rd H a (dN κd c es) ∧ ∀ p, H p = none → Q (.ref p) (upd H p (L2.DX.itemsO p a))
theorem mt_itemsN : MtR X "dict.items" (rItemsN κd) := by
  rintro pins _ σ H _ _ _ _ Q I rx rxs ⟨a, c, es, rfl, rfl, ha, q⟩
  cases rxs
  cases rx
  obtain rfl := (dN_eq I.hok ha).symm
  obtain ⟨lo, _, _, _, _, ⟨o, ho, hx, hdat⟩, _⟩ := raw_dN (dN_at I.hok ha)
  exact DT.callItems lo ⟨o, ho, hx, hdat⟩ ⟨.ref _, _, I.laid (fun b u e => Heap.get?_push_of_some _ e) (Nat.le_refl _) (L2.DX.itemsO_ok (Heap.get?_push_size _ rfl)), rfl, q _ (I.hok.fresh (Nat.le_refl _))⟩
/-- the items one after another, each a new pair -/
def ItNi (κd : PySem.HeapKind P w L) (d c : Addr) (o : Obj) (xs : EnL L) : It :=
  ⟨fun i H => H d = some (.frz o (dN κd c xs)) ∧ i < xs.length, fun i H x H' => ∃ p e, H p = none ∧ xs[i]? = some e ∧ x = .ref p ∧ H' = upd H p (.tup [.ref e.2.1, e.2.2]), fun i H => H d = some (.frz o (dN κd c xs)) ∧ xs.length ≤ i⟩
theorem entR_at {xs : EnL L} {ys : EnC L} (r : EntR xs ys) : ∀ {i : Nat} {x}, xs[i]? = some x → ∃ y, ys[i]? = some y ∧ x.1 = y.1 ∧ x.2.1 = y.2.1 ∧ RelV x.2.2 y.2.2 := by
  induction r with
  | nil => intro i x h; simp at h
  | @cons p q ps qs h t ih =>
    intro i x e
    cases i with
    | zero => simp only [List.getElem?_cons_zero, Option.some.injEq] at e; subst e; exact ⟨q, rfl, h⟩
    | succ i => exact ih (by simpa using e)
/-- a dict that stands: its entries -/
theorem stands {pins : List (Addr × Obj)} {σ : L2.St} {H : Hp} {s : Shared} {d c : Addr} {ob : Obj} {xs : EnL L} (I : Inv X pins σ H s) (h : H d = some (.frz ob (dN κd c xs))) :
    (d == sysModules) = false ∧ ∃ (es : Array DictEntry) (ep : Nat), ob.data = .dict es ep ∧ s.heap.DictRaw d es ep ∧ es.size = xs.length ∧ ∀ (i : Nat) x, xs[i]? = some x → ∃ lt : i < es.size, es[i].key = .ref x.2.1 ∧ RelV x.2.2 es[i].val := by
  obtain ⟨hd, p⟩ := I.hok d _ h
  obtain rfl := (dN_eqO p).symm
  obtain ⟨lo, ys, es, ep, r, ⟨o, ho, hx, hdat⟩, hz, he⟩ := raw_dN p.1
  rw [hd] at ho
  cases ho
  refine ⟨lo, es, ep, hdat, ⟨_, hd, hx, hdat⟩, hz, fun i x hi => ?_⟩
  obtain ⟨y, hy, _, h2, h3⟩ := entR_at r hi
  have lt : i < es.size := by rw [hz]; exact (List.getElem?_eq_some_iff.mp hi).1
  have e : es.toList[i]? = some ⟨κd.hash y.1, .ref y.2.1, y.2.2⟩ := by rw [he, List.getElem?_map, hy]; rfl
  rw [Array.getElem?_toList, Array.getElem?_eq_getElem lt] at e
  cases e' : es[i] with
  | mk a b c =>
    rw [e'] at e
    cases e
    exact ⟨lt, by rw [e', h2], by rw [e']; exact h3⟩
/-- pairs of a key and its value, one after another: what the library says of a step (KE.KDictWalk), as a turn -/
theorem turn_pairs {Pr : Program} {w' : World} {K : PySem.W.Frag} {elts : List Expr} {kk : Nat} {tpos : Pos} {J : It} {it d : Addr} {es : Array DictEntry} {ep : Nat}
    (go : ∀ (X : Cx) (pins : List (Addr × Obj)) (σ : L2.St) (H : Hp) (s : Shared) (i : Nat), X.prog = Pr → X.w = w' → Inv X pins σ H s → J.go i H → s.heap.DictRaw d es ep ∧ ∃ x y, ∃ lt : i < es.size, RelV x es[i].key ∧ RelV y es[i].val ∧ ∀ p, H p = none → J.yld i H (.ref p) (upd H p (.tup [x, y])))
    (stop : ∀ (X : Cx) (pins : List (Addr × Obj)) (σ : L2.St) (H : Hp) (s : Shared) (i : Nat), X.prog = Pr → X.w = w' → Inv X pins σ H s → J.stop i H → s.heap.DictRaw d es ep ∧ es.size ≤ i) :
    Turn Pr w' K (.Tuple elts kk tpos) J [it] it (fun i h => ∃ ok ov, IsItemIter h it d i es.size ep ok ov) := by
  have one : ∀ {b : Addr}, b ∈ [it] → b = it := fun h => List.mem_singleton.mp h
  constructor
  case mem => exact List.mem_singleton.mpr rfl
  case obj =>
    rintro i h ⟨ok, ov, st⟩ b hb
    exact ⟨_, one hb ▸ st, fun v z => by cases (show Data.fields _ = Data.cell v from z)⟩
  case keep => exact fun i h h' ⟨ok, ov, st⟩ same => ⟨ok, ov, same it (List.mem_singleton.mpr rfl) _ st⟩
  case self => exact fun A i s Q E ⟨ok, ov, st⟩ q => wpAny_pyIter_itemiter st q
  case item =>
    rintro X e1 e2 _ _ i pins s σ H E I own ⟨ok, ov, st⟩ g
    obtain ⟨raw, x, y, lt, rx, ry, yl⟩ := go X pins σ H s i e1 e2 I g
    subst e1 e2
    refine wpAny_pyNext_items_item_raw st raw lt fun h' out pair _ same => ⟨_, rfl, wpAny_letOwnedTupleGo_items (s := { s with heap := h' }) out fun h2 st2 sb => ?_⟩
    have old : it ≠ s.heap.objs.size := Nat.ne_of_lt (Heap.lt_size st)
    have pair2 : h2.get? s.heap.objs.size = some { cls := .type "tuple", data := .seq #[es[i].key, es[i].val] } := (sb.2 _ (Ne.symm old)).trans pair
    have new : ObjOk X.prog X.w (upd H s.heap.objs.size (.tup [x, y])) h2 s.heap.objs.size (.tup [x, y]) := ⟨(by decide : 2 ≤ sizeLine), [es[i].key, es[i].val], .cons rx (.cons ry .nil), _, pair2, rfl, _, rfl⟩
    refine ⟨.ref s.heap.objs.size, _, I.turnedNew (t' := s.toks) (ch := [it]) (fun b o hb e => (sb.2 b fun z => hb (List.mem_singleton.mpr z)).trans (same b o (fun z => hb (List.mem_singleton.mpr z)) e)) own (Nat.le_refl _) new, rfl, yl _ (I.hok.fresh (Nat.le_refl _)), ⟨_, _, st2⟩, fun b hb => ?_⟩
    rw [one hb, upd_ne old]
    exact (own it (List.mem_singleton.mpr rfl)).1
  case done =>
    rintro X e1 e2 _ calm i pins s σ H E I own ⟨ok, ov, st⟩ g
    obtain ⟨raw, ge⟩ := stop X pins σ H s i e1 e2 I g
    obtain ⟨n0, nl, _, ne, nc, np⟩ := own it (List.mem_singleton.mpr rfl)
    subst e1 e2
    exact wpAny_pyNext_items_end_raw (I.ok.hd calm) st raw ge fun h' ext => ⟨rfl, I.turned (t' := s.toks) (fun b z hb e => ext b z hb e) n0 nl ne nc np⟩
def iItemsN (κd : PySem.HeapKind P w L) (td : TE) : TI := fun σ H R => tMG0 (aDictN κd) (rItemsN κd) td σ H fun v H' => ∃ p d c ob xs, v = .ref p ∧ H' p = some (L2.DX.itemsO p d) ∧ H' d = some (.frz ob (dN κd c xs)) ∧ R (ItNi κd d c ob xs) H'
theorem pi_itemsN {o : Expr} {td : TE} {elts : List Expr} {kk : Nat} {tpos apos cpos : Pos} (κd : PySem.HeapKind P w L) (he : PE X o td) (hbase : attributeBase o "items" X.env (eval o X.env) = eval o X.env := by rfl) (hline : (apos.endLine == cpos.line) = true := by rfl) :
    PI X (.Tuple elts kk tpos) (.Call (.Attribute o "items" apos) [] [] cpos) (iItemsN κd td) := by
  refine ⟨fun pins s σ H R I h => thn ((pe_mG0 (aDictN_ok (κd := κd)) F.plainAttrs_dict F.slot_dict_items F.type_dict_items mt_itemsN he hbase hline).run pins s σ H _ I h) fun v s1 hv => ?_⟩
  · obtain ⟨x, H1, I1, rx, p, d, c, ob, xs, rfl, hp, hd, q⟩ := hv
    cases rx
    obtain ⟨lo, es, ep, dat, raw, sz, ent⟩ := stands I1 hd
    have hv : s1.heap.IsItemsView p d := (I1.hok p _ hp).1
    refine wpAny_pyIter_items_raw hv raw (pi_one (tk := s1.toks) I1 _ (turn_pairs (fun X' pins' σ' H' s' i e1 e2 I' g => ?_) fun X' pins' σ' H' s' i e1 e2 I' g => ?_) ⟨_, _, Heap.get?_push_size _ rfl⟩ q)
    · obtain ⟨_, es', ep', dat', raw', _, ent'⟩ := stands I' g.1
      rw [dat] at dat'
      cases dat'
      have hx := List.getElem?_eq_getElem (l := xs) (i := i) g.2
      obtain ⟨lt, k1, k2⟩ := ent' i _ hx
      exact ⟨raw', .ref xs[i].2.1, xs[i].2.2, lt, k1, k2, fun p hp => ⟨p, _, hp, hx, rfl, rfl⟩⟩
    · obtain ⟨_, es', ep', dat', raw', sz', _⟩ := stands I' g.1
      rw [dat] at dat'
      cases dat'
      exact ⟨raw', by rw [sz']; exact g.2⟩
/-! d.get(k) -/
def rGetN (κd : PySem.HeapKind P w L) (G : Hp → L → V → Prop) : V → List V → Hp → VK → Prop := fun x xs H Q => ∃ (a c : Addr) (es : EnL L) (k : L) (y : V), x = .ref a ∧ xs = [y] ∧ Rd H a (dN κd c es) ∧ (∀ e ∈ es, G H e.1 (.ref e.2.1)) ∧ G H k y ∧ Q ((lookN es k).getD .non) H
theorem mt_getN (κd : PySem.HeapKind P w L) (eP : X.prog = P) (ew : X.w = w) (eK : X.K = K) (hG : KeyOk P w K κd G) (h7 : ∀ A : Around, A.units + 8 < cLine → κd.room A) (hu : X.A.units + 64 < cLine) : MtR X "dict.get" (rGetN κd G) := by
  rintro pins s σ H _ _ _ us Q I rx rxs ⟨a, c, es, k, y, rfl, rfl, ha, gk, gy, q⟩
  cases rx
  obtain rfl := (dN_eq I.hok ha).symm
  match us, rxs with
  | [u], .cons ry .nil =>
    obtain ⟨lo, ys, r, dd⟩ := dN_of eP ew eK hG h7 I ha gk
    obtain ⟨b, e1, e2, hk⟩ := key_at eP ew eK hG h7 I gy ry
    subst e1
    subst eP ew
    refine call_meetsIn F.slot_dict_get dd.typeIs F.entry_dict_get (F.args_dict_get_2 _ _) (meetsH_dict_get κd a b lo) ⟨h7 X.A.in1 (by show X.A.units + 1 + 8 < cLine; omega), k, ys, hk, dd, (lookN es k).getD .non, H, I.tok _, ?_, q⟩
    obtain ⟨l1, l2⟩ := entR_look (k := k) r
    cases e : lookN es k with
    | none => rw [l2 e]; exact rfl
    | some v =>
      obtain ⟨b', u', h1, h2⟩ := l1 v e
      rw [h1]; exact h2
end
end Sl
namespace Mi
open PySem PySem.Spec PyProof.Rows L2
open Sl (isTup sz szl slt EnL)
section
variable {ρ : Type} {A : Nat → Addr} {E : L2.St → XK} {K : PySem.W.Frag} {Γ : Ctx} {c : Res ρ} {Δ : Dl ρ} {κ : Ctx → Vo → Res ρ → Prop} {te ta tb : TE} {ts : TS} {tr : TA} {i : Nat}
/-- what may be None, in a slot: where it is not -/
theorem ws_narrow {α : Type} (i : Nat) (t : α → Pv) {x : Option α} (hg : Γ[i]? = some (.val (yOpt t x))) {k : α → Res ρ} (hc : c = (punwrap x).bind k) (h : ∀ y, WS A E (Γ.set i (.val (t y))) ts (k y) Δ) : WS A E Γ ts c Δ := fun F T S σ H D O R hT d => by
  subst hc
  cases x with
  | none => exact absurd hT (O σ).nb
  | some y =>
    have e : Γ.set i (.val (t y)) = Γ := by
      obtain ⟨lt, e⟩ := List.getElem?_eq_some_iff.mp hg
      refine List.ext_getElem? fun j => ?_
      by_cases z : i = j
      · subst z
        rw [List.getElem?_set_self lt, hg]; rfl
      · rw [List.getElem?_set_ne z]
    exact (e ▸ h y) F T S σ H D O R hT d
/-- self.f = e, the value named -/
theorem ws_fsetL {α : Type} (t : α → Pv) {C : Addr} {f : Str} {b0 : Bool} {fs0 : List (Str × Pv)} (hcl : Cls K C) (hn : NoAttr K C f) (hg : Γ[i]? = some (.own b0 (wIns C fs0)))
    (h : WX A E Γ te c fun Γ1 V c1 => ∃ b fs x k, V = .val (t x) ∧ Γ1[i]? = some (.own b (wIns C fs)) ∧ fs.length < 900 ∧ c1 = lt x k ∧ ∀ y, Δ.nx (Γ1.set i (.own b (wIns C (putPv f (t y) fs)))) (k y)) : WS A E Γ (sFld K (tVar i) te f) c Δ :=
  ws_fset hcl hn hg fun F T S σ H Q O R hc kk => h F T S σ H Q O R hc fun Γ1 V c1 ⟨b, fs, x, k, e, hg1, hl, ec, q⟩ => kk Γ1 V c1 ⟨b, fs, t x, e, hg1, hl, by rw [ec]; exact q x⟩
/-- isinstance of what may be None, where neither is -/
theorem rc_isiOF {α : Type} {T1 T2 : String} {t : α → Pv} [I : HasTy K t T1] {x : Option α} (hb : PySem.W.kitOne K (.type T1) (.type T2) = some false) (hn : PySem.W.kitOne K (.type "NoneType") (.type T2) = some false) (h : κ Γ (.val (yBl false)) c) : RC A E (fun _ => rIsi K) [.val (yOpt t x), .val (yCls T2)] Γ c κ := fun F T S σ H vs Q' O R hc hg kk => by
  obtain ⟨v, w, rfl, hv, hw⟩ := ag2 hg
  cases hw
  cases x with
  | none => exact ⟨v, _, _, _, false, rfl, .ty T2, (show v = .non from hv) ▸ .base .non, hn, kk _ _ _ h S H _ R Le.refl rfl hc⟩
  | some x => exact ⟨v, _, _, _, false, rfl, .ty T2, I.ty x S H v hv, hb, kk _ _ _ h S H _ R Le.refl rfl hc⟩
/-- an operand that is a tuple -/
theorem wx_tupB (h : WX A E Γ tb c fun Γ' V c' => ∃ ps, V = .val (pTup K ps) ∧ κ Γ' V c') : WX A E Γ (Sl.tTupB K tb) c κ := fun F T S σ H Q O R hc k => by
  refine h F T S σ H _ O R hc fun Γ' V c' ⟨ps, e, h1⟩ S' H' v R' l hv hc' => ?_
  subst e
  have hv' := hv
  obtain ⟨a, vs, rfl, hs, _⟩ := hv'
  exact ⟨⟨a, vs, rfl, hs⟩, k _ _ _ h1 S' H' _ R' l hv hc'⟩
/-- list(range(n)) -/
theorem wx_listRg (h : WX A E Γ ta c fun Γ1 V c1 => ∃ (n : Int) (k : Unit → Res ρ), V = .val (yInt n) ∧ c1 = (guard (-40000 ≤ n ∧ n ≤ 40000)).bind k ∧ κ Γ1 (.own (wLst K yInt (rng 0 n.toNat))) (k ())) : WX A E Γ (tLstRg (tRg1 ta)) c κ := fun F T S σ H Q O R hc kk => by
  refine h F T S σ H _ O R hc fun Γ1 V c1 ⟨n, k, e, ec, h1⟩ S1 H1 v R1 l1 p1 hc1 => ?_
  subst e; subst ec
  cases p1
  unfold guard at hc1
  by_cases z : -40000 ≤ n ∧ n ≤ 40000
  · rw [if_pos z] at hc1
    refine ⟨n, rfl, ⟨by omega, by omega, by omega, by omega, by omega⟩, fun q hq => kk _ _ _ h1 S1 _ _ (R1.new hq) (l1.trans (le_new hq)) (isOwn R1 hq ⟨_, rfl, ?_, by rw [rgV_length]; exact sz (by omega)⟩) hc1⟩
    have e : rgV 0 n = (rng 0 n.toNat).map V.int := by
      unfold rgV rng
      rw [List.map_map, Int.sub_zero]; rfl
    rw [e]
    exact ints_psOk _
  · rw [if_neg z] at hc1; exact absurd hc1 O.nb
end
section
variable {ρ : Type} {A : Nat → Addr} {E : L2.St → XK} {P : Program} {w : World} {K : PySem.W.Frag} {Γ : Ctx} {c : Res ρ} {κ : Ctx → Vo → Res ρ → Prop} {κ' α : Type} {n : Nat} {t : κ' → Pv} [N : NE K t (n + 1)] {u : α → Pv} {te td tx ty : TE} {tr : TA} {tb : TS} {tt : TT} {g : TG} {vs : List Nat} {i : Nat} {Δ : Dl ρ} [DecidableEq κ']
/-- d.get(k) -/
theorem wx_nget1 (h : WX A E Γ td c fun Γ1 V c1 => ∃ d : List (κ' × α), V = .val (yDn K P w t u d) ∧ WX A E Γ1 ty c1 fun Γ2 V2 c2 => ∃ x, V2 = .val (t x) ∧ κ Γ2 (.val (yOpt u (dlook d x))) c2) :
    WX A E Γ (tMG (Sl.aDictN (VN P w)) (Sl.rGetN (VN P w) (KyOf K t)) td (tCons ty tNil)) c κ := fun F T S σ H Q O R hc kk => by
  refine h F T S σ H _ O R hc fun Γ1 V c1 ⟨d, e, h1⟩ S1 H1 v R1 l1 p1 hc1 => ?_
  subst e
  obtain ⟨a, b, xs, rfl, hs, hr, hk, hl⟩ := p1
  refine ⟨⟨a, b, xs, rfl, hr⟩, ?_⟩
  refine h1 F T S1 σ H1 _ O R1 hc1 fun Γ2 V c2 ⟨x, e, h2⟩ S2 H2 z R2 l2 p2 hc2 => ?_
  subst e
  obtain ⟨_, b, xs, e, hs, hr, hk, hl⟩ := (yDn K P w t u d).up l2 ⟨a, b, xs, rfl, hs, hr, hk, hl⟩
  cases e
  refine ⟨a, b, xs, N.enc x, z, rfl, rfl, hr, hk.key, ⟨S2, x, rfl, p2⟩, kk _ _ _ h2 S2 H2 _ R2 (l1.trans l2) ?_ hc2⟩
  obtain ⟨q1, q2⟩ := hk.look (k := x)
  cases e : dlook d x with
  | none => rw [q2 e]; exact rfl
  | some y =>
    obtain ⟨v, e', hp⟩ := q1 y e
    rw [e']; exact hp
theorem NdOk.both {S : Fz} {H : Hp} : ∀ {es : EnL NK} {d : List (κ' × α)} {j : Nat} {e : NK × Addr × V}, NdOk K S H t u es d → es[j]? = some e → ∃ p, d[j]? = some p ∧ (t p.1).p S H (.ref e.2.1) ∧ (u p.2).p S H e.2.2
  | [], _, _, _, _, he => by simp at he
  | _ :: _, [], _, _, h, _ => False.elim h
  | e :: es, p :: d, 0, e', h, he => by cases he; exact ⟨p, rfl, h.1.2.1, h.1.2.2⟩
  | e :: es, p :: d, j + 1, e', h, he => NdOk.both (j := j) h.2 he
theorem itni_ok {F : Fr} {S : Fz} {H : Hp} {d q : Addr} {o : Obj} {xs : EnL NK} {dd : List (κ' × α)} (h0 : F.H0 d = some (.frz o (Sl.dN (VN P w) q xs))) (hI : ¬ F.I d) (hp : NdOk K S H t u xs dd) (hl : xs.length ≤ sizeLine) : ItOk F (Sl.ItNi (VN P w) d q o xs) (dd.map (yPr K t u)) S H := by
  have e : (dd.map (yPr K t u)).length = xs.length := by rw [hp.len, List.length_map]
  refine ⟨by rw [e]; exact hl, fun S1 H1 l f => ?_⟩
  have hd := f.kp d _ h0 hI
  rw [e]
  refine ⟨fun j hj => ⟨hd, hj⟩, ⟨hd, Nat.le_refl _⟩, fun j x H' hj y => ?_⟩
  obtain ⟨p, en, hp0, h1, rfl, rfl⟩ := y
  obtain ⟨z, q1, q2, q3⟩ := (hp.up l).both h1
  refine ⟨yPr K t u z, by rw [List.getElem?_map, q1]; rfl, .inr ⟨p, _, hp0, rfl⟩, ?_⟩
  have ln := le_new (S := S1) (o := .tup [.ref en.2.1, en.2.2]) hp0
  exact ⟨p, _, rfl, .of upd_same, ⟨(t z.1).up ln q2, (u z.2).up ln q3, trivial⟩, (by decide : 2 ≤ sizeLine)⟩
theorem wx_lcNI {β : Type} {v : β → Pv} (gk : GK g vs) (d : List (κ' × α)) (hg : Γ[i]? = some (.val (yDn K P w t u d)))
    {f : κ' × α → Res (Option β)} {k : List β → Res ρ} (hc : c = (pml f d).bind k)
    (hb : ∀ x, WG (valsC (wipeC Γ vs)) g (yPr K t u x) fun Γ2 => WT A ET Γ2 tt (f x) fun Γ3 q c3 => ∃ m : Res (Option β), c3 = (if q = true then m else .ok none) ∧ (WX A ET Γ3 te m fun Γ4 V c4 => ∃ y, V = .val (v y) ∧ c4 = .ok (some y)))
    (hk : ∀ ys, κ Γ (.own (oLst K (ys.map v))) (k ys)) : WX A E Γ (fun σ H Q => tLockE (tLc (Sl.iItemsN (VN P w) (tVar i)) g tt te vs) σ H Q ∨ tLc (Sl.iItemsN (VN P w) (tVar i)) g tt te vs σ H Q) c κ := fun F T S σ H Q O R hT kk => by
  subst hc
  obtain ⟨v0, e, a, b, xs, rfl, hs, hr, hp, hl⟩ := R.val i _ hg
  have nh : ¬ Held Γ σ a := fun ⟨j, b, O', h1, h2⟩ => by
    obtain ⟨a', o, e1, e2, e3, e4, _⟩ := R.own j b O' h1
    rw [h2] at e1; cases e1
    exact e4 hs
  rcases hr with hr | ⟨z, hr⟩
  · refine .inl ⟨a, _, hr, trivial, fun od => ?_⟩
    have RL := R.lock (od := od) hr hs ndn.1 ndn.2
    have l : Le S H S (upd H a (.frz od (Sl.dN (VN P w) b xs))) := le_lock hr ndn.1 ndn.2
    refine lcU_at (A := A) (E := ET) (K := K) (F := F.at S (upd H a (.frz od (Sl.dN (VN P w) b xs))) (Held Γ σ)) (T := T) (S := S) (κ := fun Γ2 V c2 => Γ2 = Γ ∧ ∃ ys, V = .own (oLst K (ys.map v)) ∧ c2 = k ys) (yPr K t u) v gk ⟨O.nb, fun e z S' H' f => erT A⟩
      (fun Rr hh => ⟨_, e, ⟨a, b, xs, rfl, .inr ⟨_, upd_same⟩⟩, a, b, xs, rfl, rfl, .inr ⟨_, upd_same⟩, fun p hp0 => ⟨p, a, b, od, xs, rfl, upd_same, by rw [upd_ne (ne_of_none upd_same hp0)]; exact upd_same, hh _ _ _ ⟨f, d, k, rfl, rfl, hb, fun ys => ⟨rfl, ys, rfl, rfl⟩⟩ _ _ _ (RL.new hp0) (le_new hp0) hT (itni_ok upd_same nh ((hp.up l).up (le_new hp0)) hl)⟩⟩)
      fun Γ2 V c2 h2 S2 H2 v R2 l2 hv hc2 => ?_
    obtain ⟨rfl, ys, rfl, rfl⟩ := h2
    obtain ⟨q1, q2, q3⟩ := R.unlock hr hs ndn.1 ndn.2 R2
    exact ⟨q1, kk _ _ _ (hk ys) S2 _ v q3 ((l.trans l2).trans q2) (is_unlock R hr hs ndn.1 ndn.2 R2 hv) hc2⟩
  · refine .inr ?_
    refine lcU_at (A := A) (E := ET) (K := K) (F := F.at S H (Held Γ σ)) (T := T) (S := S) (κ := fun Γ2 V c2 => Γ2 = Γ ∧ ∃ ys, V = .own (oLst K (ys.map v)) ∧ c2 = k ys) (yPr K t u) v gk ⟨O.nb, fun e z S' H' f => erT A⟩
      (fun Rr hh => ⟨_, e, ⟨a, b, xs, rfl, .inr ⟨_, hr⟩⟩, a, b, xs, rfl, rfl, .inr ⟨_, hr⟩, fun p hp0 => ⟨p, a, b, z, xs, rfl, upd_same, by rw [upd_ne (ne_of_none hr hp0)]; exact hr, hh _ _ _ ⟨f, d, k, rfl, rfl, hb, fun ys => ⟨rfl, ys, rfl, rfl⟩⟩ _ _ _ (R.enter.new hp0) (le_new hp0) hT (itni_ok hr nh (hp.up (le_new hp0)) hl)⟩⟩)
      fun Γ2 V c2 h2 S2 H2 v R2 l2 hv hc2 => ?_
    obtain ⟨rfl, ys, rfl, rfl⟩ := h2
    exact kk _ _ _ (hk ys) S2 _ v (R.leave R2) l2 (is_leave R hv) hc2
end
end Mi
namespace Sl
open PySem PySem.Spec PyProof.Rows L2 Mi
def f_listed (sums : (Option (List ((Str × Str) × Int)))) : Res ((List (Str × Str × Int))) := Res.noerr ((if (sums.isNone) then .ok ([(("" : Str), ("" : Str), (-(1 : Int)))] : (List (Str × Str × Int))) else ((punwrap sums).bind fun r1 => ((psortB (ltP ltT ltT) gdA (dkeys r1)).bind fun r2 => (pml (fun q1 : (Str × Str) => ((if (!decide (q1.1 = q1.2)) then ((pdget r1 (q1.1, q1.2)).bind fun r3 => .ok (some (q1.1, q1.2, r3))) else .ok none) : Res (Option (Str × Str × Int)))) r2).bind fun r4 => .ok r4))))
def f_tightened (sums : (Option (List ((Str × Str) × Int)))) (constraint : (Str × Str × Int)) : Res ((Option (List ((Str × Str) × Int)))) := Res.noerr (((((if (sums.isNone) then .ok (true, ()) else ((punwrap sums).bind fun r1 => (((if (dhas r1 (constraint.2.1, constraint.1)) then ((punwrap sums).bind fun r2 => (pdget r2 (constraint.2.1, constraint.1)).bind fun r3 => .ok ((decide ((r3 + constraint.2.2) < (0 : Int))), ())) else .ok (false, ())) : Res (Bool × Unit))).bind fun r4 => .ok (r4.1, ()))) : Res (Bool × Unit))).bind fun r5 => (if r5.1 then .ok (none : (Option (List ((Str × Str) × Int)))) else ((punwrap sums).bind fun r6 => ((pml (fun q1 : ((Str × Str) × Int) => ((if (decide (q1.1.2 = constraint.1)) then .ok (some (q1.1.1, q1.2)) else .ok none) : Res (Option (Str × Int)))) r6).bind fun r7 => lt r7 fun into : (List (Str × Int)) => ((pml (fun q2 : ((Str × Str) × Int) => ((if (decide (q2.1.1 = constraint.2.1)) then .ok (some (q2.1.2, q2.2)) else .ok none) : Res (Option (Str × Int)))) r6).bind fun r8 => lt r8 fun onward : (List (Str × Int)) => ((pml (fun q3 : (Str × Str) => (((pdget r6 q3).bind fun r9 => .ok (some (q3, r9))) : Res (Option ((Str × Str) × Int)))) (dkeys r6)).bind fun r10 => lt (dof r10) fun found : (List ((Str × Str) × Int)) => ((pfold (fun (s3 : ((List ((Str × Str) × Int)))) (q4 : (Str × Int)) => (((pfold (fun (s4 : ((List ((Str × Str) × Int)))) (q5 : (Str × Int)) => (lt ((q4.2 + constraint.2.2) + q5.2) fun total : Int => ((((if (!dhas s4 (q4.1, q5.1)) then .ok (true, ()) else ((pdget s4 (q4.1, q5.1)).bind fun r11 => .ok ((decide (total < r11)), ()))) : Res (Bool × Unit))).bind fun r12 => (if r12.1 then ((pdput s4 (q4.1, q5.1) total).bind fun d1 => .ok (d1)) else .ok (s4))) : Res ((List ((Str × Str) × Int))))) (s3) onward).bind fun s4 => .ok (s4)) : Res ((List ((Str × Str) × Int))))) (found) into).bind fun s3 => .ok (some s3)))))))))
def f_Differences___init__ (self : Unit) (theory : ((List Str) × (List (Str × Str × Int)))) : Res (Unit × ((List Str) × (Option (List ((Str × Str) × Int))) × (List (Str × Str × Int)))) := Res.noerr (((pfit ([("" : Str)] ++ theory.1 : List Str)).bind fun r1 => (pml (fun q1 : Str => (.ok (some ((q1, q1), (0 : Int))) : Res (Option ((Str × Str) × Int)))) r1).bind fun r2 => lt (some (dof r2)) fun sums : (Option (List ((Str × Str) × Int))) => ((pfold (fun (s1 : ((Option (List ((Str × Str) × Int))))) (q2 : (Str × Str × Int)) => (((f_tightened s1 q2).bind fun r3 => lt r3 fun sums : (Option (List ((Str × Str) × Int))) => .ok (sums)) : Res ((Option (List ((Str × Str) × Int)))))) (sums) theory.2).bind fun s1 => lt theory.1 fun o1 : (List Str) => lt s1 fun o2 : (Option (List ((Str × Str) × Int))) => ((f_listed s1).bind fun r4 => lt r4 fun o3 : (List (Str × Str × Int)) => .ok ((), (o1, o2, o3))))))
def f_Differences_satisfiable (self : ((List Str) × (Option (List ((Str × Str) × Int))) × (List (Str × Str × Int)))) : (Bool) := (self.2.1.isSome)
def f_Differences___len__ (self : ((List Str) × (Option (List ((Str × Str) × Int))) × (List (Str × Str × Int)))) : (Int) := (self.2.2.length : Int)
def f_Differences___contains__ (self : ((List Str) × (Option (List ((Str × Str) × Int))) × (List (Str × Str × Int)))) (constraint : (Str × Str × Int)) : Res (Bool) := Res.noerr (((((if (self.2.1.isNone) then .ok (true, ()) else ((punwrap self.2.1).bind fun r1 => (((if (dhas r1 (constraint.1, constraint.2.1)) then ((punwrap self.2.1).bind fun r2 => (pdget r2 (constraint.1, constraint.2.1)).bind fun r3 => .ok ((decide (r3 ≤ constraint.2.2)), ())) else .ok (false, ())) : Res (Bool × Unit))).bind fun r4 => .ok (r4.1, ()))) : Res (Bool × Unit))).bind fun r5 => .ok r5.1))
def f_Differences___getitem__ (self : ((List Str) × (Option (List ((Str × Str) × Int))) × (List (Str × Str × Int)))) (at' : (Str × Str)) : Res ((Option Int)) := (if (self.2.1.isNone) then (.err ⟨3, .no⟩) else ((punwrap self.2.1).bind fun r1 => .ok (dlook r1 (at'.1, at'.2))))
def f_Differences___add__ (self : ((List Str) × (Option (List ((Str × Str) × Int))) × (List (Str × Str × Int)))) (constraint : (Str × Str × Int)) : Res (((List Str) × (Option (List ((Str × Str) × Int))) × (List (Str × Str × Int)))) := Res.noerr (((f_Differences___init__ () (self.1, ([] : (List (Str × Str × Int))))).bind fun r1 => lt r1.2 fun grown : ((List Str) × (Option (List ((Str × Str) × Int))) × (List (Str × Str × Int))) => ((f_tightened self.2.1 constraint).bind fun r2 => lt r2 fun o1 : (Option (List ((Str × Str) × Int))) => ((f_listed o1).bind fun r3 => lt r3 fun o2 : (List (Str × Str × Int)) => .ok (grown.1, o1, o2)))))
def f__law_source (_law_script : (List Int)) (_law_k : Int) : Res ((List Int)) := Res.noerr (lt (0 : Int) fun _law_number : Int => (((if (decide (_law_k < (_law_script.length : Int))) then ((pidx _law_script _law_k).bind fun r1 => lt r1 fun _law_number : Int => .ok (_law_number)) else .ok (_law_number)) : Res (Int)).bind fun s1 => .ok ([s1, (((100 : Int) * _law_k) + (_law_script.length : Int))] : List Int)))
def f__law_draw (_law_source_here : (List Int)) (_law_limit : Int) : Res (Int × (List Int)) := Res.noerr (((pidx _law_source_here (0 : Int)).bind fun r1 => lt r1 fun _law_number : Int => (if (decide (((10 : Int) ^ ((18 : Int)).toNat) ≤ _law_number)) then ((pdiv _law_number _law_limit).bind fun r2 => (pset _law_source_here (0 : Int) r2).bind fun z1 => ((pmod _law_number _law_limit).bind fun r3 => .ok (r3, z1))) else ((pidx _law_source_here (1 : Int)).bind fun r4 => (pset _law_source_here (1 : Int) (r4 + (1 : Int))).bind fun z2 => ((pidx z2 (1 : Int)).bind fun r5 => lt ((((_law_number * (48271 : Int)) + (r5 * (69621 : Int))) + (7 : Int)) % (2147483647 : Int)) fun _law_mixed : Int => ((pmul _law_mixed _law_mixed).bind fun r6 => (pidx z2 (1 : Int)).bind fun r7 => lt (((r6 + _law_number) + (r7 * (40692 : Int))) % (2147483629 : Int)) fun _law_mixed : Int => ((pmul _law_mixed _law_mixed).bind fun r8 => lt (((r8 + (_law_mixed / (4096 : Int))) + (12345 : Int)) % (2147483587 : Int)) fun _law_mixed : Int => ((pmod (_law_mixed / (64 : Int)) _law_limit).bind fun r9 => .ok (r9, z2)))))))))
def f__law_some (_law_source_here : (List Int)) (_law_names : (List Str)) (_law_most : Int) : Res ((List Str) × (List Int)) := Res.noerr (lt ([] : List Str) fun _law_found : (List Str) => ((pfold (fun (s1 : ((List Int) × (List Str))) (q1 : Str) => (((((if (decide ((s1.2.length : Int) < _law_most)) then ((f__law_draw s1.1 (3 : Int)).bind fun r1 => .ok ((decide ((0 : Int) < r1.1)), (r1.2))) else .ok (false, (s1.1))) : Res (Bool × ((List Int))))).bind fun r2 => (if r2.1 then ((psnoc s1.2 q1).bind fun z1 => .ok (r2.2, z1)) else .ok (r2.2, s1.2))) : Res ((List Int) × (List Str)))) (_law_source_here, _law_found) _law_names).bind fun s1 => .ok (s1.2, s1.1)))
def f__law_bound (_law_source_here : (List Int)) : Res (Int × (List Int)) := Res.noerr (((f__law_draw _law_source_here (4 : Int)).bind fun r1 => (if (decide (r1.1 = (0 : Int))) then ((f__law_draw r1.2 (39 : Int)).bind fun r2 => .ok ((r2.1 - (19 : Int)), r2.2)) else ((f__law_draw r1.2 (9 : Int)).bind fun r3 => .ok ((r3.1 - (4 : Int)), r3.2)))))
def f__law_constraint (_law_source_here : (List Int)) (_law_names : (List Str)) : Res ((Str × Str × Int) × (List Int)) := Res.noerr (((pcat ([("" : Str)] : List Str) _law_names).bind fun r1 => lt (([("" : Str)] : List Str) ++ _law_names) fun _law_ends : (List Str) => ((f__law_draw _law_source_here (_law_ends.length : Int)).bind fun r2 => (pidx _law_ends r2.1).bind fun r3 => lt r3 fun _law_x : Str => ((f__law_draw r2.2 (_law_ends.length : Int)).bind fun r4 => (pidx _law_ends r4.1).bind fun r5 => lt r5 fun _law_y : Str => (((if ((decide (_law_x = _law_y)) && (!decide (_law_x = ("" : Str)))) then lt ("" : Str) fun _law_y : Str => .ok (_law_y) else .ok (_law_y)) : Res (Str)).bind fun s1 => ((f__law_bound r4.2).bind fun r6 => .ok ((_law_x, s1, r6.1), r6.2)))))))
def f__law_theory (_law_source_here : (List Int)) : Res (((List Str) × (List (Str × Str × Int))) × (List Int)) := Res.noerr (lt ([("a" : Str), ("a1" : Str), ("b" : Str), ("b.c" : Str), ("c" : Str), ("d" : Str), ("x9" : Str), ("zz" : Str)] : List Str) fun _law_pool : (List Str) => ((f__law_draw _law_source_here (4 : Int)).bind fun r1 => (f__law_draw r1.2 (5 : Int)).bind fun r2 => (f__law_some r2.2 (pcut _law_pool (some r1.1) none) r2.1).bind fun r3 => lt r3.1 fun _law_names : (List Str) => lt ([] : List (Str × Str × Int)) fun _law_constraints : (List (Str × Str × Int)) => ((f__law_draw r3.2 (9 : Int)).bind fun r4 => ((guard (-40000 ≤ r4.1 ∧ r4.1 ≤ 40000))).bind fun r5 => ((pfold (fun (s1 : ((List Int) × (List (Str × Str × Int)))) (q1 : Int) => (((f__law_constraint s1.1 _law_names).bind fun r6 => (psnoc s1.2 r6.1).bind fun z1 => .ok (r6.2, z1)) : Res ((List Int) × (List (Str × Str × Int))))) (r4.2, _law_constraints) (rng 0 (r4.1).toNat)).bind fun s1 => .ok ((_law_names, s1.2), s1.1)))))
def f__law_sums (_law_theory_here : ((List Str) × (List (Str × Str × Int)))) : Res ((List ((Str × Str) × Int))) := Res.noerr (((pcat ([("" : Str)] : List Str) _law_theory_here.1).bind fun r1 => lt (([("" : Str)] : List Str) ++ _law_theory_here.1) fun _law_places : (List Str) => lt ([] : (List ((Str × Str) × Int))) fun _law_sums_here : (List ((Str × Str) × Int)) => ((pfold (fun (s1 : ((List ((Str × Str) × Int)))) (q1 : Str) => (((pdput s1 (q1, q1) (0 : Int)).bind fun d1 => .ok (d1)) : Res ((List ((Str × Str) × Int))))) (_law_sums_here) _law_places).bind fun s1 => ((pfold (fun (s2 : ((List ((Str × Str) × Int)))) (q2 : (Str × Str × Int)) => (lt (q2.1, q2.2.1) fun _law_pair : (Str × Str) => ((((if (!dhas s2 _law_pair) then .ok (true, ()) else ((pdget s2 _law_pair).bind fun r2 => .ok ((decide (q2.2.2 < r2)), ()))) : Res (Bool × Unit))).bind fun r3 => (if r3.1 then ((pdput s2 _law_pair q2.2.2).bind fun d2 => .ok (d2)) else .ok (s2))) : Res ((List ((Str × Str) × Int))))) (s1) _law_theory_here.2).bind fun s2 => ((pfold (fun (s4 : ((List ((Str × Str) × Int)))) (q3 : Str) => (((pfold (fun (s5 : ((List ((Str × Str) × Int)))) (q4 : Str) => (((pfold (fun (s6 : ((List ((Str × Str) × Int)))) (q5 : Str) => ((if ((dhas s6 (q4, q3)) && (dhas s6 (q3, q5))) then ((pdget s6 (q4, q3)).bind fun r4 => (pdget s6 (q3, q5)).bind fun r5 => lt (r4 + r5) fun _law_total : Int => ((((if (!dhas s6 (q4, q5)) then .ok (true, ()) else ((pdget s6 (q4, q5)).bind fun r6 => .ok ((decide (_law_total < r6)), ()))) : Res (Bool × Unit))).bind fun r7 => (if r7.1 then ((pdput s6 (q4, q5) _law_total).bind fun d3 => .ok (d3)) else .ok (s6)))) else .ok (s6)) : Res ((List ((Str × Str) × Int))))) (s5) _law_places).bind fun s6 => .ok (s6)) : Res ((List ((Str × Str) × Int))))) (s4) _law_places).bind fun s5 => .ok (s5)) : Res ((List ((Str × Str) × Int))))) (s2) _law_places).bind fun s4 => .ok s4)))))
def f__law_satisfiable (_law_theory_here : ((List Str) × (List (Str × Str × Int)))) (_law_sums_here : (List ((Str × Str) × Int))) : Res (Bool) := Res.noerr (((pcat ([("" : Str)] : List Str) _law_theory_here.1).bind fun r1 => (pml (fun q1 : Str => (((pdget _law_sums_here (q1, q1)).bind fun r2 => (if (decide (r2 < (0 : Int))) then .ok (some q1) else .ok none)) : Res (Option Str))) (([("" : Str)] : List Str) ++ _law_theory_here.1)).bind fun r3 => .ok (decide ((r3.length : Int) = (0 : Int)))))
def f__law_is_int (_law_value : (Option Int)) : (Bool) := (_law_value.isSome && (!false))
def f__law_difference_right (_law_actual : ((List Str) × (Option (List ((Str × Str) × Int))) × (List (Str × Str × Int)))) (_law_sums_here : (List ((Str × Str) × Int))) (_law_there : Bool) (_law_x : Str) (_law_y : Str) : Res (Bool) := Res.noerr ((ptry (((f_Differences___getitem__ _law_actual (_law_x, _law_y)).bind fun r1 => .ok r1)) (fun _law_told => (if (!_law_there) then .ok false else (if (!dhas _law_sums_here (_law_x, _law_y)) then .ok (_law_told.isNone) else ((((if (f__law_is_int _law_told) then ((punwrap _law_told).bind fun r2 => (pdget _law_sums_here (_law_x, _law_y)).bind fun r3 => .ok ((decide (r2 = r3)), ())) else .ok (false, ())) : Res (Bool × Unit))).bind fun r4 => .ok r4.1)))) 3 (.ok ((!_law_there) && true))))
def f__law_follows_right (_law_actual : ((List Str) × (Option (List ((Str × Str) × Int))) × (List (Str × Str × Int)))) (_law_sums_here : (List ((Str × Str) × Int))) (_law_there : Bool) (_law_x : Str) (_law_y : Str) : Res (Bool) := Res.noerr ((if (!_law_there) then ((f_Differences___contains__ _law_actual (_law_x, _law_y, (-(99 : Int)))).bind fun r1 => (((if ((false ^^ r1)) then ((f_Differences___contains__ _law_actual (_law_x, _law_y, (0 : Int))).bind fun r2 => .ok (((false ^^ r2)), ())) else .ok (false, ())) : Res (Bool × Unit))).bind fun r3 => .ok r3.1) else (if (!dhas _law_sums_here (_law_x, _law_y)) then ((f_Differences___contains__ _law_actual (_law_x, _law_y, (99 : Int))).bind fun r4 => .ok ((true ^^ r4))) else ((pdget _law_sums_here (_law_x, _law_y)).bind fun r5 => (f_Differences___contains__ _law_actual (_law_x, _law_y, r5)).bind fun r6 => (((if ((false ^^ r6)) then ((pdget _law_sums_here (_law_x, _law_y)).bind fun r7 => (f_Differences___contains__ _law_actual (_law_x, _law_y, (r7 - (1 : Int)))).bind fun r8 => .ok (((true ^^ r8)), ())) else .ok (false, ())) : Res (Bool × Unit))).bind fun r9 => .ok r9.1))))
def f__law_object_right (_law_theory_here : ((List Str) × (List (Str × Str × Int)))) (_law_actual : ((List Str) × (Option (List ((Str × Str) × Int))) × (List (Str × Str × Int)))) : Res (Bool) := Res.noerr (((f__law_sums _law_theory_here).bind fun r1 => lt r1 fun _law_sums_here : (List ((Str × Str) × Int)) => ((f__law_satisfiable _law_theory_here _law_sums_here).bind fun r2 => lt r2 fun _law_there : Bool => (if ((!true) || (!decide ((f_Differences_satisfiable _law_actual) = _law_there))) then .ok false else lt ([(("" : Str), ("" : Str), (-(1 : Int)))] : List (Str × Str × Int)) fun _law_expected : (List (Str × Str × Int)) => (((if _law_there then ((psortB (ltP ltT ltT) gdA (dkeys _law_sums_here)).bind fun r3 => (pml (fun q1 : (Str × Str) => ((if (!decide (q1.1 = q1.2)) then ((pdget _law_sums_here q1).bind fun r4 => .ok (some (q1.1, q1.2, r4))) else .ok none) : Res (Option (Str × Str × Int)))) r3).bind fun r5 => lt r5 fun _law_expected : (List (Str × Str × Int)) => .ok (_law_expected)) else .ok (_law_expected)) : Res ((List (Str × Str × Int)))).bind fun s1 => ((((if (!decide ((_law_actual.2.2.map fun q2 => q2) = s1)) then .ok (true, ()) else (((guard (0 ≤ (f_Differences___len__ _law_actual) ∧ (f_Differences___len__ _law_actual) ≤ 1000000))).bind fun r6 => .ok ((!decide ((f_Differences___len__ _law_actual) = (s1.length : Int))), ()))) : Res (Bool × Unit))).bind fun r7 => (if r7.1 then .ok false else ((pcat ([("" : Str)] : List Str) _law_theory_here.1).bind fun r8 => lt (([("" : Str)] : List Str) ++ _law_theory_here.1) fun _law_ends : (List Str) => ((pfor (fun (s3 : Unit) (q3 : Str) => (((pfor (fun (s4 : Unit) (q4 : Str) => (((f__law_difference_right _law_actual _law_sums_here _law_there q3 q4).bind fun r9 => (if (!r9) then .ok (.rt false) else ((((if ((!decide (q3 = q4)) || (decide (q3 = ("" : Str)))) then ((f__law_follows_right _law_actual _law_sums_here _law_there q3 q4).bind fun r10 => .ok ((!r10), ())) else .ok (false, ())) : Res (Bool × Unit))).bind fun r11 => (if r11.1 then .ok (.rt false) else .ok (.nx ()))))) : Res (Fl Unit (Bool)))) () _law_ends).thn (fun s4 => .ok (.nx ())) (fun ρ => .ok (.rt ρ))) : Res (Fl Unit (Bool)))) () _law_ends).thn (fun s3 => .ok true) (fun ρ => .ok ρ))))))))))
def f_law (_law_script : (List Int)) : Res (Bool) := Res.noerr (((f__law_source _law_script (0 : Int)).bind fun r1 => lt r1 fun _law_source_here : (List Int) => ((f__law_theory _law_source_here).bind fun r2 => lt r2.1 fun _law_theory_here : ((List Str) × (List (Str × Str × Int))) => ((f__law_draw r2.2 ((_law_theory_here.2.length : Int) + (1 : Int))).bind fun r3 => lt r3.1 fun _law_at_once : Int => ((((f__law_draw r3.2 (2 : Int)).bind fun r4 => ((if (decide (r4.1 = (0 : Int))) then lt (0 : Int) fun _law_at_once : Int => .ok (r4.2, _law_at_once) else .ok (r4.2, _law_at_once)) : Res ((List Int) × Int)))).bind fun s1 => lt (_law_theory_here.1, (pcut _law_theory_here.2 none (some s1.2))) fun _law_known : ((List Str) × (List (Str × Str × Int))) => ((f_Differences___init__ () _law_known).bind fun r5 => lt ([r5.2] : List ((List Str) × (Option (List ((Str × Str) × Int))) × (List (Str × Str × Int)))) fun _law_objects : (List ((List Str) × (Option (List ((Str × Str) × Int))) × (List (Str × Str × Int)))) => lt ([_law_known] : List ((List Str) × (List (Str × Str × Int)))) fun _law_theories : (List ((List Str) × (List (Str × Str × Int)))) => (((guard (-40000 ≤ s1.2 ∧ s1.2 ≤ 40000 ∧ -40000 ≤ (_law_theory_here.2.length : Int) ∧ (_law_theory_here.2.length : Int) ≤ 40000))).bind fun r6 => ((pfold (fun (s2 : ((List ((List Str) × (Option (List ((Str × Str) × Int))) × (List (Str × Str × Int)))) × (List ((List Str) × (List (Str × Str × Int)))))) (q1 : Int) => (((pidx s2.1 ((s2.1.length : Int) - (1 : Int))).bind fun r7 => (pidx _law_theory_here.2 q1).bind fun r8 => (f_Differences___add__ r7 r8).bind fun r9 => (psnoc s2.1 r9).bind fun z1 => lt (_law_theory_here.1, (pcut _law_theory_here.2 none (some (q1 + (1 : Int))))) fun _law_known : ((List Str) × (List (Str × Str × Int))) => ((psnoc s2.2 _law_known).bind fun z2 => .ok (z1, z2))) : Res ((List ((List Str) × (Option (List ((Str × Str) × Int))) × (List (Str × Str × Int)))) × (List ((List Str) × (List (Str × Str × Int))))))) (_law_objects, _law_theories) (rng s1.2 ((_law_theory_here.2.length : Int) - s1.2).toNat)).bind fun s2 => ((f__law_source _law_script (1 : Int)).bind fun r10 => (f__law_draw r10 (s2.1.length : Int)).bind fun r11 => lt r11.1 fun _law_again : Int => (((guard (-40000 ≤ (s2.1.length : Int) ∧ (s2.1.length : Int) ≤ 40000))).bind fun r12 => (pcat (rng 0 ((s2.1.length : Int)).toNat) ([_law_again] : List Int)).bind fun r13 => ((pfor (fun (s3 : Unit) (q2 : Int) => (((pidx s2.2 q2).bind fun r14 => (pidx s2.1 q2).bind fun r15 => (f__law_object_right r14 r15).bind fun r16 => (if (!r16) then .ok (.rt false) else .ok (.nx ()))) : Res (Fl Unit (Bool)))) () ((rng 0 ((s2.1.length : Int)).toNat) ++ ([_law_again] : List Int))).thn (fun s3 => ((pidx s2.1 _law_again).bind fun r17 => (f__law_source _law_script (2 : Int)).bind fun r18 => (f__law_constraint r18 _law_theory_here.1).bind fun r19 => (f_Differences___add__ r17 r19.1).bind fun r20 => lt r20 fun _law_other : ((List Str) × (Option (List ((Str × Str) × Int))) × (List (Str × Str × Int))) => ((((if (decide ((f_Differences_satisfiable _law_other) ∈ ([true, false] : List Bool))) then ((pidx s2.2 _law_again).bind fun r21 => (pidx s2.1 _law_again).bind fun r22 => (f__law_object_right r21 r22).bind fun r23 => .ok (r23, ())) else .ok (false, ())) : Res (Bool × Unit))).bind fun r24 => .ok r24.1))) (fun ρ => .ok ρ))))))))))))
end Sl
namespace Sl
open PySem PySem.Spec PyProof.Rows L2 Mi
abbrev Con := Str × Str × Int
/-! tables of sums: chains, closed tables -/
abbrev Tb := List ((Str × Str) × Int)
inductive Chn (V : List Str) (C : List Con) : Str → Str → Int → Prop
  | nil {p : Str} : p ∈ V → Chn V C p p 0
  | cons {x y z : Str} {b t : Int} : (x, y, b) ∈ C → Chn V C y z t → Chn V C x z (b + t)
theorem Chn.app {V : List Str} {C : List Con} {x y z : Str} {t u : Int} (h : Chn V C x y t) (h2 : Chn V C y z u) : Chn V C x z (t + u) := by
  induction h with
  | nil _ => rw [Int.zero_add]; exact h2
  | cons c _ ih => rw [Int.add_assoc]; exact .cons c (ih h2)
theorem Chn.mono {V : List Str} {C D : List Con} (s : ∀ c ∈ C, c ∈ D) {x y : Str} {t : Int} (h : Chn V C x y t) : Chn V D x y t := by
  induction h with
  | nil p => exact .nil p
  | cons c _ ih => exact .cons (s _ c) ih
theorem Chn.one {V : List Str} {C : List Con} {x y : Str} {b : Int} (h : (x, y, b) ∈ C) (hy : y ∈ V) : Chn V C x y b := by
  have := Chn.cons h (Chn.nil hy)
  rwa [Int.add_zero] at this
def AtM (o : Option Int) (t : Int) : Prop := ∃ m, o = some m ∧ m ≤ t
theorem AtM.le {o : Option Int} {t u : Int} (h : AtM o t) (l : t ≤ u) : AtM o u := by
  obtain ⟨m, e, q⟩ := h
  exact ⟨m, e, by omega⟩
structure Clo (V : List Str) (C : List Con) (d : Tb) : Prop where
  dia : ∀ p ∈ V, dlook d (p, p) = some 0
  con : ∀ x y b, (x, y, b) ∈ C → AtM (dlook d (x, y)) b
  tri : ∀ s m e a a', dlook d (s, m) = some a → dlook d (m, e) = some a' → AtM (dlook d (s, e)) (a + a')
def Snd (V : List Str) (C : List Con) (d : Tb) : Prop := ∀ s e m, dlook d (s, e) = some m → Chn V C s e m
theorem Clo.chain {V : List Str} {C : List Con} {d : Tb} (h : Clo V C d) {s e : Str} {t : Int} (c : Chn V C s e t) : AtM (dlook d (s, e)) t := by
  induction c with
  | nil p => exact ⟨0, h.dia _ p, Int.le_refl _⟩
  | cons c _ ih =>
    obtain ⟨m, e1, l1⟩ := h.con _ _ _ c
    obtain ⟨n, e2, l2⟩ := ih
    exact (h.tri _ _ _ _ _ e1 e2).le (by omega)
theorem Clo.ring {V : List Str} {C : List Con} {d : Tb} (h : Clo V C d) {p : Str} {t : Int} (hp : p ∈ V) (c : Chn V C p p t) : 0 ≤ t := by
  obtain ⟨m, e, l⟩ := h.chain c
  rw [h.dia p hp] at e
  cases e
  exact l
theorem same_sums {V : List Str} {C : List Con} {d d' : Tb} (h : Clo V C d) (s : Snd V C d) (h' : Clo V C d') (s' : Snd V C d') (k : Str × Str) : dlook d k = dlook d' k := by
  obtain ⟨x, y⟩ := k
  cases e : dlook d (x, y) with
  | none =>
    cases e' : dlook d' (x, y) with
    | none => rfl
    | some m' =>
      obtain ⟨m, q, _⟩ := h.chain (s' _ _ _ e')
      rw [e] at q; cases q
  | some m =>
    obtain ⟨m', q, l⟩ := h'.chain (s _ _ _ e)
    obtain ⟨m2, q2, l2⟩ := h.chain (s' _ _ _ q)
    rw [e] at q2; cases q2
    rw [q, Int.le_antisymm l2 l]
/-- where the keys lie -/
structure Kg (V : List Str) (d : Tb) : Prop where
  nd : (dkeys d).Nodup
  ks : ∀ k ∈ dkeys d, k.1 ∈ V ∧ k.2 ∈ V
theorem pairs_len {V : List Str} : (V.flatMap fun x => V.map fun y => (x, y)).length = V.length * V.length := by
  have : ∀ W : List Str, (W.flatMap fun x => V.map fun y => (x, y)).length = W.length * V.length := fun W => by
    induction W with
    | nil => simp
    | cons x W ih => rw [List.flatMap_cons, List.length_append, ih, List.length_map, List.length_cons, Nat.succ_mul, Nat.add_comm]
  exact this V
theorem Kg.len {V : List Str} {d : Tb} (h : Kg V d) : d.length ≤ V.length * V.length := by
  have := nodup_le (m := V.flatMap fun x => V.map fun y => (x, y)) h.nd fun k hk => List.mem_flatMap.mpr ⟨k.1, (h.ks k hk).1, List.mem_map.mpr ⟨k.2, (h.ks k hk).2, rfl⟩⟩
  rw [pairs_len] at this
  simpa [dkeys] using this
theorem look_key {d : Tb} {k : Str × Str} {m : Int} (h : dlook d k = some m) : k ∈ dkeys d := by
  induction d with
  | nil => simp [dlook_nil] at h
  | cons p d ih =>
    rw [dlook_cons] at h
    by_cases e : p.1 = k
    · simp [dkeys, e]
    · rw [if_neg e] at h
      have := ih h
      simp only [dkeys, List.map_cons, List.mem_cons] at this ⊢
      exact .inr this
theorem look_mem {d : Tb} (nd : (dkeys d).Nodup) {k : Str × Str} {m : Int} : (k, m) ∈ d ↔ dlook d k = some m := by
  induction d with
  | nil => simp [dlook_nil]
  | cons p d ih =>
    have nd' : p.1 ∉ dkeys d ∧ (dkeys d).Nodup := by simpa [dkeys] using nd
    rw [dlook_cons, List.mem_cons]
    by_cases e : p.1 = k
    · rw [if_pos e]
      constructor
      · rintro (h | h)
        · rw [← h]
        · exact absurd (e ▸ List.mem_map.mpr ⟨_, h, rfl⟩ : p.1 ∈ dkeys d) nd'.1
      · intro h
        cases h
        exact .inl (by rw [← e])
    · rw [if_neg e, ← ih nd'.2]
      exact ⟨fun h => h.resolve_left fun z => e (by rw [← z]), .inr⟩
theorem Kg.at {V : List Str} {d : Tb} (h : Kg V d) {x y : Str} {m : Int} (e : dlook d (x, y) = some m) : x ∈ V ∧ y ∈ V := h.ks _ (look_key e)
theorem has_look {d : Tb} {k : Str × Str} : dhas d k = true ↔ ∃ m, dlook d k = some m := by
  unfold dhas
  cases dlook d k <;> simp
/-- d with k at most t -/
structure Rlx (d d' : Tb) (k : Str × Str) (t : Int) : Prop where
  lo : ∀ k' m, AtM (dlook d k') m → AtM (dlook d' k') m
  at_ : AtM (dlook d' k) t
  or_ : ∀ k' m, dlook d' k' = some m → dlook d k' = some m ∨ (k' = k ∧ m = t)
def relax (f : Tb) (k : Str × Str) (t : Int) : Res Tb := ((((if (!dhas f k) then .ok (true, ()) else ((pdget f k).bind fun r => .ok ((decide (t < r)), ()))) : Res (Bool × Unit))).bind fun r => (if r.1 then ((pdput f k t).bind fun d => .ok (d)) else .ok (f)))
theorem relax_ok {V : List Str} {f : Tb} {k : Str × Str} {t : Int} (hV : V.length ≤ 300) (h : Kg V f) (hk : k.1 ∈ V ∧ k.2 ∈ V) : Ret (relax f k t) fun f' => Kg V f' ∧ Rlx f f' k t := by
  have hl : f.length < 100000 := Nat.lt_of_le_of_lt h.len (Nat.lt_of_le_of_lt (Nat.mul_le_mul hV hV) (by decide))
  have put : (∀ m, dlook f k = some m → t < m) → Kg V (dput f k t) ∧ Rlx f (dput f k t) k t := fun big => by
    refine ⟨⟨dkeys_put_nodup h.nd, fun k' q => (mem_dkeys_put.mp q).elim (fun e => e ▸ hk) (h.ks k')⟩, fun k' m ⟨a, e, l⟩ => ?_, ⟨t, by rw [dlook_put, if_pos rfl], Int.le_refl _⟩, fun k' m e => ?_⟩
    · by_cases z : k' = k
      · subst z
        exact ⟨t, by rw [dlook_put, if_pos rfl], by have := big a e; omega⟩
      · exact ⟨a, by rw [dlook_put, if_neg z]; exact e, l⟩
    · rw [dlook_put] at e
      by_cases z : k' = k
      · rw [if_pos z] at e; cases e; exact .inr ⟨z, rfl⟩
      · rw [if_neg z] at e; exact .inl e
  have stay : ∀ m, dlook f k = some m → m ≤ t → Kg V f ∧ Rlx f f k t := fun m e l => ⟨h, fun _ _ q => q, ⟨m, e, l⟩, fun _ _ e => .inl e⟩
  refine ret_bind (P := fun r : Bool × Unit => (r.1 = true → ∀ m, dlook f k = some m → t < m) ∧ (r.1 = false → ∃ m, dlook f k = some m ∧ m ≤ t)) (ret_if (fun z => ret_ok ⟨fun _ m e => ?_, nofun⟩) fun z => ?_) fun r hr => ret_if (fun z => ret_eq (pdput_ok hl) (ret_ok (put (hr.1 z)))) fun z => ?_
  · have : dhas f k = true := has_look.mpr ⟨m, e⟩
    rw [this] at z; cases z
  · obtain ⟨m, e⟩ := has_look.mp (by simpa using z : dhas f k = true)
    refine ret_eq (pdget_ok e) (ret_ok ⟨fun q m' e' => ?_, fun q => ⟨m, e, ?_⟩⟩)
    · rw [e] at e'; cases e'; exact of_decide_eq_true q
    · have := of_decide_eq_false q; omega
  · obtain ⟨m, e, l⟩ := hr.2 (by simpa using z)
    exact ret_ok (stay m e l)
/-- f is f0, every s, e at most g s + h e -/
structure Mn (f0 : Tb) (g h : Str → Option Int) (f : Tb) : Prop where
  lo : ∀ k m, AtM (dlook f0 k) m → AtM (dlook f k) m
  ge : ∀ s e a a', g s = some a → h e = some a' → AtM (dlook f (s, e)) (a + a')
  or_ : ∀ s e m, dlook f (s, e) = some m → dlook f0 (s, e) = some m ∨ ∃ a a', g s = some a ∧ h e = some a' ∧ m = a + a'
/-- no negative ring, all told -/
structure Good (V : List Str) (C : List Con) (d : Tb) : Prop where
  kg : Kg V d
  clo : Clo V C d
  snd : Snd V C d
def Ring (V : List Str) (C : List Con) : Prop := ∃ p t, p ∈ V ∧ Chn V C p p t ∧ t < 0
def StT (V : List Str) (C : List Con) : Option Tb → Prop
  | some d => Good V C d
  | none => Ring V C
theorem Ring.mono {V : List Str} {C D : List Con} (s : ∀ c ∈ C, c ∈ D) (h : Ring V C) : Ring V D := by
  obtain ⟨p, t, h1, h2, h3⟩ := h
  exact ⟨p, t, h1, h2.mono s, h3⟩
theorem Snd.mono {V : List Str} {C D : List Con} {d : Tb} (s : ∀ c ∈ C, c ∈ D) (h : Snd V C d) : Snd V D d := fun x y m e => (h x y m e).mono s
/-- one constraint more -/
theorem grow {V : List Str} {C : List Con} {d f : Tb} {x y : Str} {b : Int} (G : Good V C d) (hx : x ∈ V) (hy : y ∈ V) (ok : ∀ m, dlook d (y, x) = some m → 0 ≤ m + b) (kf : Kg V f)
    (M : Mn d (fun s => (dlook d (s, x)).map (· + b)) (fun e => dlook d (y, e)) f) : Good V (C ++ [(x, y, b)]) f := by
  have sub : ∀ c ∈ C, c ∈ C ++ [(x, y, b)] := fun c h => List.mem_append_left _ h
  have gs : ∀ {s a}, (dlook d (s, x)).map (· + b) = some a → ∃ q, dlook d (s, x) = some q ∧ a = q + b := fun {s a} h => by
    cases e : dlook d (s, x) with
    | none => rw [e] at h; cases h
    | some q => rw [e] at h; cases h; exact ⟨q, rfl, rfl⟩
  have sg : ∀ {s q}, dlook d (s, x) = some q → (dlook d (s, x)).map (· + b) = some (q + b) := fun {s q} h => by rw [h]; rfl
  -- the way round through the new one is not negative
  have loop : ∀ {p q r}, dlook d (y, p) = some q → dlook d (p, x) = some r → 0 ≤ q + r + b := fun {p q r} h1 h2 => by
    obtain ⟨w, e, l⟩ := G.clo.tri _ _ _ _ _ h1 h2
    have := ok w e
    omega
  refine ⟨kf, ⟨fun p hp => ?_, fun x' y' b' hc => ?_, fun s m e a a' h1 h2 => ?_⟩, fun s e m h => ?_⟩
  · obtain ⟨z, e, l⟩ := M.lo (p, p) 0 ⟨0, G.clo.dia p hp, Int.le_refl _⟩
    rw [e]
    rcases M.or_ _ _ _ e with q | ⟨a, a', q1, q2, q3⟩
    · rw [G.clo.dia p hp] at q; cases q; rfl
    · obtain ⟨r, r1, r2⟩ := gs q1
      have := loop q2 r1
      congr 1; omega
  · rcases List.mem_append.mp hc with hc | hc
    · exact M.lo _ _ (G.clo.con _ _ _ hc)
    · cases List.mem_singleton.mp hc
      exact (M.ge _ _ _ _ (sg (G.clo.dia x hx)) (G.clo.dia y hy)).le (by omega)
  · rcases M.or_ _ _ _ h1 with p | ⟨a1, a2, p1, p2, p3⟩ <;> rcases M.or_ _ _ _ h2 with q | ⟨b1, b2, q1, q2, q3⟩
    · exact M.lo _ _ (G.clo.tri _ _ _ _ _ p q)
    · obtain ⟨r, r1, r2⟩ := gs q1
      obtain ⟨w, e1, l⟩ := G.clo.tri _ _ _ _ _ p r1
      exact (M.ge _ _ _ _ (sg e1) q2).le (by omega)
    · obtain ⟨w, e1, l⟩ := G.clo.tri _ _ _ _ _ p2 q
      exact (M.ge _ _ _ _ p1 e1).le (by omega)
    · obtain ⟨r, r1, r2⟩ := gs q1
      have := loop p2 r1
      exact (M.ge _ _ _ _ p1 q2).le (by omega)
  · rcases M.or_ _ _ _ h with p | ⟨a1, a2, p1, p2, p3⟩
    · exact (G.snd _ _ _ p).mono sub
    · obtain ⟨r, r1, r2⟩ := gs p1
      have c1 := (G.snd _ _ _ r1).mono sub
      have c2 := (G.snd _ _ _ p2).mono sub
      have c3 : Chn V (C ++ [(x, y, b)]) x e (b + a2) := .cons (List.mem_append_right _ (List.mem_singleton.mpr rfl)) c2
      have := c1.app c3
      rwa [p3, r2, Int.add_assoc]
theorem punw {α β : Type} {x : α} {k : α → Res β} {Q : β → Prop} (h : Ret (k x) Q) : Ret ((punwrap (some x)).bind k) Q := h
theorem dof_nd {κ α : Type} [DecidableEq κ] (ys : List (κ × α)) : (dkeys (dof ys)).Nodup := by
  rw [← List.reverse_reverse ys]
  induction ys.reverse with
  | nil => exact List.nodup_nil
  | cons y l ih => rw [List.reverse_cons, dof_snoc]; exact dkeys_put_nodup ih
theorem dof_look {κ α : Type} [DecidableEq κ] (g : κ → α) (k : κ) (xs : List κ) : dlook (dof (xs.map fun r => (r, g r))) k = if k ∈ xs then some (g k) else none := by
  rw [← List.reverse_reverse xs]
  induction xs.reverse with
  | nil => simp [dof, dlook_nil]
  | cons x l ih =>
    rw [List.reverse_cons, List.map_append, List.map_cons, List.map_nil, dof_snoc, dlook_put, ih]
    by_cases e : k = x
    · subst e; simp
    · rw [if_neg e]
      by_cases z : k ∈ l.reverse
      · rw [if_pos z, if_pos (List.mem_append_left _ z)]
      · rw [if_neg z, if_neg fun w => (List.mem_append.mp w).elim z fun w => e (List.mem_singleton.mp w)]
theorem copy_look {d : Tb} (k : Str × Str) : dlook (dof ((dkeys d).map fun r => (r, (dlook d r).getD 0))) k = dlook d k := by
  rw [dof_look (fun r => (dlook d r).getD 0)]
  by_cases z : k ∈ dkeys d
  · obtain ⟨m, e⟩ := dlook_mem z
    rw [if_pos z, e]; rfl
  · rw [if_neg z]
    cases e : dlook d k with
    | none => rfl
    | some m => exact absurd (look_key e) z
theorem tight_ok {V : List Str} {C : List Con} {o : Option Tb} {c : Con} (hV : V.length ≤ 300) (hx : c.1 ∈ V) (hy : c.2.1 ∈ V) (h : StT V C o) : Ret (f_tightened o c) (StT V (C ++ [c])) := by
  obtain ⟨x, y, b⟩ := c
  have sub : ∀ c ∈ C, c ∈ C ++ [(x, y, b)] := fun c h => List.mem_append_left _ h
  cases o with
  | none => exact ret_noerr (ret_bind (P := fun r : Bool × Unit => r.1 = true) (ret_ok rfl) fun r hr => ret_if (fun _ => ret_ok (Ring.mono sub h)) fun z => absurd hr z)
  | some d =>
    have G : Good V C d := h
    refine ret_noerr (ret_bind (P := fun r : Bool × Unit => (r.1 = true → ∃ m, dlook d (y, x) = some m ∧ m + b < 0) ∧ (r.1 = false → ∀ m, dlook d (y, x) = some m → 0 ≤ m + b)) ?_ fun r hr => ret_if (fun z => ret_ok ?_) fun z => ?_)
    · refine ret_if (fun z => by cases z) fun _ => punw (ret_bind (P := fun r : Bool × Unit => (r.1 = true → ∃ m, dlook d (y, x) = some m ∧ m + b < 0) ∧ (r.1 = false → ∀ m, dlook d (y, x) = some m → 0 ≤ m + b)) (ret_if (fun z => ?_) fun z => ret_ok ⟨nofun, fun _ m e => ?_⟩) fun r hr => ret_ok hr)
      · obtain ⟨m, e⟩ := has_look.mp z
        refine punw (ret_eq (pdget_ok e) (ret_ok ⟨fun q => ⟨m, e, of_decide_eq_true q⟩, fun q m' e' => ?_⟩))
        rw [e] at e'; cases e'
        have := of_decide_eq_false q
        dsimp only at this
        omega
      · exact absurd (has_look.mpr ⟨m, e⟩) z
    · obtain ⟨m, e, l⟩ := hr.1 z
      exact ⟨x, b + m, hx, .cons (List.mem_append_right _ (List.mem_singleton.mpr rfl)) ((G.snd _ _ _ e).mono sub), by omega⟩
    · have ok := hr.2 (by simpa using z)
      refine punw (ret_eq (pml_ok (g := fun q : (Str × Str) × Int => if q.1.2 = x then some (q.1.1, q.2) else none) fun q _ => ?_) (ret_ltE fun into hi => ret_eq (pml_ok (g := fun q : (Str × Str) × Int => if q.1.1 = y then some (q.1.2, q.2) else none) fun q _ => ?_) (ret_ltE fun onward ho => ret_eq (pml_map (g := fun k : Str × Str => (k, (dlook d k).getD 0)) fun k hk => ?_) (ret_ltE fun found hf => ?_))))
      · show (if decide (q.1.2 = x) = true then (.ok (some (q.1.1, q.2)) : Res (Option (Str × Int))) else .ok none) = _
        by_cases e : q.1.2 = x <;> simp [e]
      · show (if decide (q.1.1 = y) = true then (.ok (some (q.1.2, q.2)) : Res (Option (Str × Int))) else .ok none) = _
        by_cases e : q.1.1 = y <;> simp [e]
      · obtain ⟨m, e⟩ := dlook_mem hk
        rw [pdget_ok e, bind_ok, e]; rfl
      · have mi : ∀ s a, (s, a) ∈ into ↔ dlook d (s, x) = some a := fun s a => by
          rw [hi, ← look_mem G.kg.nd, List.mem_filterMap]
          constructor
          · rintro ⟨⟨⟨k1, k2⟩, v⟩, h1, h2⟩
            by_cases e : k2 = x
            · subst e; simp at h2; obtain ⟨rfl, rfl⟩ := h2; exact h1
            · simp [e] at h2
          · intro h1
            exact ⟨((s, x), a), h1, by simp⟩
        have mo : ∀ e a, (e, a) ∈ onward ↔ dlook d (y, e) = some a := fun s a => by
          rw [ho, ← look_mem G.kg.nd, List.mem_filterMap]
          constructor
          · rintro ⟨⟨⟨k1, k2⟩, v⟩, h1, h2⟩
            by_cases e : k1 = y
            · subst e; simp at h2; obtain ⟨rfl, rfl⟩ := h2; exact h1
            · simp [e] at h2
          · intro h1
            exact ⟨((y, s), a), h1, by simp⟩
        have lf : ∀ k, dlook found k = dlook d k := fun k => by rw [hf]; exact copy_look k
        have kf : Kg V found := ⟨by rw [hf]; exact dof_nd _, fun k hk => by
          obtain ⟨m, e⟩ := dlook_mem hk
          rw [lf] at e
          exact G.kg.ks k (look_key e)⟩
        clear hi ho hf
        refine ret_bind (ret_fold (fun pre (f : Tb) => Kg V f ∧ (∀ k m, AtM (dlook d k) m → AtM (dlook f k) m) ∧ (∀ k m, dlook f k = some m → dlook d k = some m ∨ ∃ a a', dlook d (k.1, x) = some a ∧ dlook d (y, k.2) = some a' ∧ m = a + b + a') ∧ ∀ q ∈ pre, ∀ e a', dlook d (y, e) = some a' → AtM (dlook f (q.1, e)) (q.2 + b + a')) ⟨kf, fun k m h => by rw [lf]; exact h, fun k m h => .inl (by rw [← lf]; exact h), by simp⟩ ?_) fun f hf => ret_ok ?_
        · rintro pre q4 post f eq ⟨j1, j2, j3, j4⟩
          have d4 : dlook d (q4.1, x) = some q4.2 := (mi q4.1 q4.2).mp (by rw [eq]; simp)
          refine ret_bind (ret_fold (fun pre2 (f : Tb) => Kg V f ∧ (∀ k m, AtM (dlook d k) m → AtM (dlook f k) m) ∧ (∀ k m, dlook f k = some m → dlook d k = some m ∨ ∃ a a', dlook d (k.1, x) = some a ∧ dlook d (y, k.2) = some a' ∧ m = a + b + a') ∧ (∀ q ∈ pre, ∀ e a', dlook d (y, e) = some a' → AtM (dlook f (q.1, e)) (q.2 + b + a')) ∧ ∀ q ∈ pre2, AtM (dlook f (q4.1, q.1)) (q4.2 + b + q.2)) ⟨j1, j2, j3, j4, by simp⟩ ?_) fun f hf => ret_ok ⟨hf.1, hf.2.1, hf.2.2.1, fun q hq e a' he => ?_⟩
          · rintro pre2 q5 post2 f eq2 ⟨i1, i2, i3, i4, i5⟩
            have d5 : dlook d (y, q5.1) = some q5.2 := (mo q5.1 q5.2).mp (by rw [eq2]; simp)
            refine ret_ltE fun total ht => ?_
            subst ht
            refine ret_mono (relax_ok (k := (q4.1, q5.1)) (t := q4.2 + b + q5.2) hV i1 ⟨(G.kg.at d4).1, (G.kg.at d5).2⟩) fun f' ⟨kf', R⟩ => ⟨kf', fun k m h => R.lo _ _ (i2 k m h), fun k m e => ?_, fun q hq e a' he => R.lo _ _ (i4 q hq e a' he), fun q hq => ?_⟩
            · rcases R.or_ _ _ e with e | ⟨e1, e2⟩
              · exact i3 k m e
              · rw [e1, e2]; exact .inr ⟨_, _, d4, d5, rfl⟩
            · rcases List.mem_append.mp hq with hq | hq
              · exact R.lo _ _ (i5 q hq)
              · rw [List.mem_singleton.mp hq]; exact R.at_
          · rcases List.mem_append.mp hq with hq | hq
            · exact hf.2.2.2.1 q hq e a' he
            · rw [List.mem_singleton.mp hq]; exact hf.2.2.2.2 (e, a') ((mo e a').mpr he)
        · obtain ⟨j1, j2, j3, j4⟩ := hf
          refine grow G hx hy ok j1 ⟨j2, fun s e a a' h1 h2 => ?_, fun s e m h1 => ?_⟩
          · cases q : dlook d (s, x) with
            | none => rw [q] at h1; cases h1
            | some r =>
              rw [q] at h1; cases h1
              exact j4 (s, r) ((mi s r).mpr q) e a' h2
          · rcases j3 _ _ h1 with q | ⟨a, a', q1, q2, q3⟩
            · exact .inl q
            · exact .inr ⟨a + b, a', by rw [q1]; rfl, q2, q3⟩
def Neg (V : List Str) (d : Tb) : Prop := ∃ p m, p ∈ V ∧ dlook d (p, p) = some m ∧ m < 0
theorem Neg.mono {V : List Str} {d f : Tb} (lo : ∀ k m, AtM (dlook d k) m → AtM (dlook f k) m) (h : Neg V d) : Neg V f := by
  obtain ⟨p, m, hp, e, l⟩ := h
  obtain ⟨n, e2, l2⟩ := lo _ m ⟨m, e, Int.le_refl _⟩
  exact ⟨p, n, hp, e2, by omega⟩
/-- after the places M -/
structure Fw (V : List Str) (C : List Con) (M : List Str) (d : Tb) : Prop where
  kg : Kg V d
  snd : Snd V C d
  con : ∀ x y b, (x, y, b) ∈ C → AtM (dlook d (x, y)) b
  le0 : ∀ p ∈ V, AtM (dlook d (p, p)) 0
  ok : Neg V d ∨ ∀ m ∈ M, ∀ s e a a', dlook d (s, m) = some a → dlook d (m, e) = some a' → AtM (dlook d (s, e)) (a + a')
theorem zero_of {V : List Str} {d : Tb} (h : ∀ p ∈ V, AtM (dlook d (p, p)) 0) (n : ¬ Neg V d) {p : Str} (hp : p ∈ V) : dlook d (p, p) = some 0 := by
  obtain ⟨m, e, l⟩ := h p hp
  rw [e]
  by_cases z : m < 0
  · exact absurd ⟨p, m, hp, e, z⟩ n
  · congr 1; omega
/-- within the place q, from f0 on; the pairs of Z done -/
structure Ph (V : List Str) (C : List Con) (q : Str) (f0 : Tb) (Z : Str → Str → Prop) (f : Tb) : Prop where
  kg : Kg V f
  snd : Snd V C f
  lo : ∀ k m, AtM (dlook f0 k) m → AtM (dlook f k) m
  ok : Neg V f ∨ (((∀ s, dlook f (s, q) = dlook f0 (s, q)) ∧ (∀ e, dlook f (q, e) = dlook f0 (q, e))) ∧ (∀ s e m, dlook f (s, e) = some m → dlook f0 (s, e) = some m ∨ ∃ a a', dlook f0 (s, q) = some a ∧ dlook f0 (q, e) = some a' ∧ m = a + a') ∧
    ∀ s e, Z s e → ∀ a a', dlook f0 (s, q) = some a → dlook f0 (q, e) = some a' → AtM (dlook f (s, e)) (a + a'))
theorem Ph.skip {V : List Str} {C : List Con} {q : Str} {f0 : Tb} {Z : Str → Str → Prop} {f : Tb} {s e : Str} (h : Ph V C q f0 Z f) (n : ¬ (dhas f (s, q) = true ∧ dhas f (q, e) = true)) : Ph V C q f0 (fun s' e' => Z s' e' ∨ (s' = s ∧ e' = e)) f :=
  ⟨h.kg, h.snd, h.lo, h.ok.imp id fun ⟨c, o, z⟩ => ⟨c, o, fun s' e' hz a a' h1 h2 => hz.elim (fun hz => z s' e' hz a a' h1 h2) fun ⟨e1, e2⟩ => by
    subst e1; subst e2
    exact absurd ⟨has_look.mpr ⟨a, by rw [c.1]; exact h1⟩, has_look.mpr ⟨a', by rw [c.2]; exact h2⟩⟩ n⟩⟩
theorem Ph.step {V : List Str} {C : List Con} {q : Str} {f0 : Tb} {Z : Str → Str → Prop} {f f' : Tb} {s e : Str} {a a' : Int} (z0 : ¬ Neg V f0 → dlook f0 (q, q) = some 0) (h : Ph V C q f0 Z f) (ha : dlook f (s, q) = some a) (ha' : dlook f (q, e) = some a')
    (kf : Kg V f') (R : Rlx f f' (s, e) (a + a')) : Ph V C q f0 (fun s' e' => Z s' e' ∨ (s' = s ∧ e' = e)) f' := by
  refine ⟨kf, fun s' e' m h1 => ?_, fun k m q => R.lo _ _ (h.lo k m q), ?_⟩
  · rcases R.or_ _ _ h1 with h1 | ⟨h1, h2⟩
    · exact h.snd _ _ _ h1
    · cases h1
      rw [h2]
      exact (h.snd _ _ _ ha).app (h.snd _ _ _ ha')
  · rcases h.ok with h1 | ⟨⟨c1, c2⟩, o, z⟩
    · exact .inl (h1.mono R.lo)
    · by_cases ng : Neg V f'
      · exact .inl ng
      · have n0 : ¬ Neg V f0 := fun x => ng (x.mono fun k m q => R.lo _ _ (h.lo k m q))
        have q0 := z0 n0
        have same : ∀ k, (k.1 = q ∨ k.2 = q) → dlook f' k = dlook f k := fun k hk => by
          by_cases ek : k = (s, e)
          · subst ek
            have le : ∀ m, dlook f (s, e) = some m → m ≤ a + a' := fun m hm => by
              rcases hk with hk | hk
              · have hk : s = q := hk
                subst hk
                rw [c1, q0] at ha; cases ha
                rw [ha'] at hm; cases hm; omega
              · have hk : e = q := hk
                subst hk
                rw [c2, q0] at ha'; cases ha'
                rw [ha] at hm; cases hm; omega
            have ex : ∃ m, dlook f (s, e) = some m := by
              rcases hk with hk | hk
              · have hk : s = q := hk
                subst hk; exact ⟨_, ha'⟩
              · have hk : e = q := hk
                subst hk; exact ⟨_, ha⟩
            obtain ⟨m, hm⟩ := ex
            obtain ⟨m', hm', l'⟩ := R.lo _ _ ⟨m, hm, Int.le_refl _⟩
            rw [hm, hm']
            rcases R.or_ _ _ hm' with w | ⟨_, w⟩
            · rw [hm] at w; cases w; rfl
            · have := le m hm
              congr 1; omega
          · cases w : dlook f k with
            | none =>
              cases w' : dlook f' k with
              | none => rfl
              | some m' =>
                rcases R.or_ _ _ w' with u | ⟨u, _⟩
                · rw [w] at u; cases u
                · exact absurd u ek
            | some m =>
              obtain ⟨m', hm', _⟩ := R.lo _ _ ⟨m, w, Int.le_refl _⟩
              rcases R.or_ _ _ hm' with u | ⟨u, _⟩
              · rw [w] at u; rw [hm', u]
              · exact absurd u ek
        refine .inr ⟨⟨fun s' => (same (s', q) (.inr rfl)).trans (c1 s'), fun e' => (same (q, e') (.inl rfl)).trans (c2 e')⟩, fun s' e' m h1 => ?_, fun s' e' hz b b' h1 h2 => ?_⟩
        · rcases R.or_ _ _ h1 with h1 | ⟨h1, h2⟩
          · exact o _ _ _ h1
          · cases h1
            exact .inr ⟨a, a', by rw [← c1]; exact ha, by rw [← c2]; exact ha', h2⟩
        · rcases hz with hz | ⟨e1, e2⟩
          · exact R.lo _ _ (z s' e' hz b b' h1 h2)
          · subst e1; subst e2
            rw [← c1, ha] at h1; cases h1
            rw [← c2, ha'] at h2; cases h2
            exact R.at_
theorem Fw.next {V : List Str} {C : List Con} {M : List Str} {q : Str} {f0 f : Tb} (hq : q ∈ V) (hM : ∀ m ∈ M, m ∈ V) (h : Fw V C M f0) (p : Ph V C q f0 (fun s e => s ∈ V ∧ e ∈ V) f) : Fw V C (M ++ [q]) f := by
  refine ⟨p.kg, p.snd, fun x y b hc => p.lo _ _ (h.con x y b hc), fun r hr => p.lo _ _ (h.le0 r hr), ?_⟩
  by_cases ng : Neg V f
  · exact .inl ng
  · have n0 : ¬ Neg V f0 := fun x => ng (x.mono p.lo)
    obtain ⟨⟨c1, c2⟩, o, z⟩ := p.ok.resolve_left ng
    have tri := h.ok.resolve_left n0
    have zz : ∀ {r}, r ∈ V → dlook f0 (r, r) = some 0 := fun hr => zero_of h.le0 n0 hr
    have fin : ∀ {s e a a'}, dlook f0 (s, q) = some a → dlook f0 (q, e) = some a' → AtM (dlook f (s, e)) (a + a') := fun {s e a a'} h1 h2 => z s e ⟨(h.kg.at h1).1, (h.kg.at h2).2⟩ a a' h1 h2
    refine .inr fun m hm s e a a' h1 h2 => ?_
    rcases List.mem_append.mp hm with hm | hm
    · rcases o _ _ _ h1 with u | ⟨u1, u2, p1, p2, p3⟩ <;> rcases o _ _ _ h2 with v | ⟨v1, v2, q1, q2, q3⟩
      · exact p.lo _ _ (tri m hm _ _ _ _ u v)
      · obtain ⟨w, e1, l⟩ := tri m hm _ _ _ _ u q1
        exact (fin e1 q2).le (by omega)
      · obtain ⟨w, e1, l⟩ := tri m hm _ _ _ _ p2 v
        exact (fin p1 e1).le (by omega)
      · obtain ⟨w, e1, l⟩ := tri m hm _ _ _ _ p2 q1
        rw [zz hq] at e1; cases e1
        exact (fin p1 q2).le (by omega)
    · rw [List.mem_singleton.mp hm] at h1 h2
      rw [c1] at h1; rw [c2] at h2
      exact fin h1 h2
theorem Fw.clo {V : List Str} {C : List Con} {d : Tb} (h : Fw V C V d) (n : ¬ Neg V d) : Clo V C d :=
  ⟨fun p hp => zero_of h.le0 n hp, h.con, fun s m e a a' h1 h2 => h.ok.resolve_left n m (h.kg.at h1).2 s e a a' h1 h2⟩
theorem sums_ok {t : List Str × List Con} (hV : t.1.length ≤ 200) (hC : ∀ c ∈ t.2, c.1 ∈ ("" : Str) :: t.1 ∧ c.2.1 ∈ ("" : Str) :: t.1) : Ret (f__law_sums t) (Fw (("" : Str) :: t.1) t.2 (("" : Str) :: t.1)) := by
  refine ret_noerr (ret_eq (pcat_ok (by simp; omega)) (ret_ltE fun V hVe => ret_lt ?_))
  have hVe : V = ("" : Str) :: t.1 := hVe
  rw [← hVe] at hC ⊢
  have hl : V.length ≤ 300 := by rw [hVe]; simp; omega
  clear hVe hV
  have LL : ∀ {d : Tb}, Kg V d → d.length < 100000 := fun h => Nat.lt_of_le_of_lt h.len (Nat.lt_of_le_of_lt (Nat.mul_le_mul hl hl) (by decide))
  refine ret_bind (ret_fold (fun pre (d : Tb) => Kg V d ∧ (∀ p ∈ pre, dlook d (p, p) = some 0) ∧ ∀ s e m, dlook d (s, e) = some m → s = e ∧ m = 0) ⟨⟨List.nodup_nil, by simp [dkeys]⟩, by simp, fun s e m h => by simp [dlook_nil] at h⟩ ?_) fun d1 h1 => ?_
  · rintro pre p post d eq ⟨k, a, s⟩
    have hp : p ∈ V := by rw [eq]; simp
    refine ret_eq (pdput_ok (LL k)) (ret_ok ⟨⟨dkeys_put_nodup k.nd, fun k' q => (mem_dkeys_put.mp q).elim (fun e => by subst e; exact ⟨hp, hp⟩) (k.ks k')⟩, fun r hr => ?_, fun s' e' m h => ?_⟩)
    · rw [dlook_put]
      by_cases z : r = p
      · subst z; rw [if_pos rfl]
      · rw [if_neg fun w => z (congrArg Prod.fst w)]
        exact a r ((List.mem_append.mp hr).resolve_right fun w => z (List.mem_singleton.mp w))
    · rw [dlook_put] at h
      by_cases z : (s', e') = (p, p)
      · rw [if_pos z] at h; cases z; cases h; exact ⟨rfl, rfl⟩
      · rw [if_neg z] at h; exact s s' e' m h
  obtain ⟨k1, a1, s1⟩ := h1
  refine ret_bind (ret_fold (fun pre (d : Tb) => Kg V d ∧ Snd V t.2 d ∧ (∀ x y b, (x, y, b) ∈ pre → AtM (dlook d (x, y)) b) ∧ ∀ p ∈ V, AtM (dlook d (p, p)) 0) ⟨k1, fun s e m h => ?_, by simp, fun p hp => ⟨0, a1 p hp, Int.le_refl _⟩⟩ ?_) fun d2 h2 => ?_
  · obtain ⟨rfl, rfl⟩ := s1 s e m h
    exact .nil (k1.at h).1
  · rintro pre c post d eq ⟨k, s, a, z⟩
    have hc : c ∈ t.2 := by rw [eq]; simp
    refine ret_ltE fun pair hp => ?_
    have hp : pair = (c.1, c.2.1) := hp
    subst hp
    refine ret_mono (relax_ok (k := (c.1, c.2.1)) (t := c.2.2) hl k (hC c hc)) fun d' ⟨k', R⟩ => ⟨k', fun s' e' m h => ?_, fun x y b hb => ?_, fun p hp => R.lo _ _ (z p hp)⟩
    · rcases R.or_ _ _ h with h | ⟨h, h2⟩
      · exact s _ _ _ h
      · cases h
        rw [h2]
        exact Chn.one hc (hC c hc).2
    · rcases List.mem_append.mp hb with hb | hb
      · exact R.lo _ _ (a x y b hb)
      · rw [← List.mem_singleton.mp hb] at R
        exact R.at_
  obtain ⟨k2, s2, a2, z2⟩ := h2
  refine ret_bind (ret_fold (fun pre (d : Tb) => Fw V t.2 pre d) ⟨k2, s2, a2, z2, .inr (by simp)⟩ ?_) fun d3 h3 => ret_ok h3
  rintro pre q post f0 eq h0
  have hq : q ∈ V := by rw [eq]; simp
  have hpre : ∀ m ∈ pre, m ∈ V := fun m hm => by rw [eq]; exact List.mem_append_left _ hm
  have z0 : ¬ Neg V f0 → dlook f0 (q, q) = some 0 := fun n => zero_of h0.le0 n hq
  refine ret_bind (ret_fold (fun pre2 (d : Tb) => Ph V t.2 q f0 (fun s e => s ∈ pre2 ∧ e ∈ V) d) ⟨h0.kg, h0.snd, fun _ _ h => h, .inr ⟨⟨fun _ => rfl, fun _ => rfl⟩, fun _ _ _ h => .inl h, by simp⟩⟩ ?_) fun f hf => ret_ok (h0.next hq hpre hf)
  rintro pre2 x post2 f1 eq2 h1
  have hx : x ∈ V := by rw [eq2]; simp
  refine ret_bind (ret_fold (fun pre3 (d : Tb) => Ph V t.2 q f0 (fun s e => (s ∈ pre2 ∧ e ∈ V) ∨ (s = x ∧ e ∈ pre3)) d) ⟨h1.kg, h1.snd, h1.lo, h1.ok.imp id fun ⟨c, o, z⟩ => ⟨c, o, fun s e hz => z s e (hz.resolve_right fun w => by simpa using w.2)⟩⟩ ?_) fun f hf => ret_ok ⟨hf.kg, hf.snd, hf.lo, hf.ok.imp id fun ⟨c, o, z⟩ => ⟨c, o, fun s e hz => z s e ?_⟩⟩
  · rintro pre3 y post3 f eq3 h2
    have hy : y ∈ V := by rw [eq3]; simp
    have cv : ∀ {d : Tb}, Ph V t.2 q f0 (fun s' e' => ((s' ∈ pre2 ∧ e' ∈ V) ∨ (s' = x ∧ e' ∈ pre3)) ∨ (s' = x ∧ e' = y)) d → Ph V t.2 q f0 (fun s e => (s ∈ pre2 ∧ e ∈ V) ∨ (s = x ∧ e ∈ pre3 ++ [y])) d := fun h => ⟨h.kg, h.snd, h.lo, h.ok.imp id fun ⟨c, o, z⟩ => ⟨c, o, fun s e hz => z s e (hz.elim (fun w => .inl (.inl w)) fun w => (List.mem_append.mp w.2).elim (fun u => .inl (.inr ⟨w.1, u⟩)) fun u => .inr ⟨w.1, List.mem_singleton.mp u⟩)⟩⟩
    refine ret_if (fun c => ?_) fun c => ret_ok (cv (h2.skip fun w => c (by rw [w.1, w.2]; rfl)))
    obtain ⟨c1, c2⟩ := Bool.and_eq_true_iff.mp c
    obtain ⟨a, ha⟩ := has_look.mp c1
    obtain ⟨a', ha'⟩ := has_look.mp c2
    refine ret_eq (pdget_ok ha) (ret_eq (pdget_ok ha') (ret_ltE fun total ht => ?_))
    subst ht
    exact ret_mono (relax_ok (k := (x, y)) (t := a + a') hl h2.kg ⟨hx, hy⟩) fun f' ⟨kf, R⟩ => cv (h2.step z0 ha ha' kf R)
  · rcases List.mem_append.mp hz.1 with w | w
    · exact .inl ⟨w, hz.2⟩
    · exact .inr ⟨List.mem_singleton.mp w, hz.2⟩
theorem draw_ok {l : List Int} {lim : Int} (hl : Src2 l) (h0 : 0 < lim) (h1 : lim < 1073741824) : Ret (f__law_draw l lim) fun r => (0 ≤ r.1 ∧ r.1 < lim) ∧ Src2 r.2 := by
  obtain ⟨n, c, rfl⟩ := hl
  have e0 : ∀ a b : Int, pidx [a, b] 0 = .ok a := fun _ _ => rfl
  have e1 : ∀ a b : Int, pidx [a, b] 1 = .ok b := fun _ _ => rfl
  have s0 : ∀ a b x : Int, pset [a, b] 0 x = .ok [x, b] := fun _ _ _ => rfl
  have s1 : ∀ a b x : Int, pset [a, b] 1 x = .ok [a, x] := fun _ _ _ => rfl
  have lm : ∀ x : Int, 0 ≤ x % lim ∧ x % lim < lim := fun x => ⟨Int.emod_nonneg _ (by omega), Int.emod_lt_of_pos _ h0⟩
  refine ret_noerr (ret_eq (e0 ..) (ret_ltE fun N _ => ret_if (fun _ => ?_) fun _ => ?_))
  · exact ret_eq (pdiv_ok h0 h1) (ret_eq (s0 ..) (ret_eq (pmod_ok h0) (ret_ok ⟨lm _, _, _, rfl⟩)))
  · refine ret_eq (e1 ..) (ret_eq (s1 ..) (ret_eq (e1 ..) (ret_ltE fun m hm => ?_)))
    have hm1 : 0 ≤ m ∧ m < 2147483647 := by rw [hm]; exact ⟨Int.emod_nonneg _ (by omega), Int.emod_lt_of_pos _ (by omega)⟩
    clear hm
    refine ret_eq (pmul_l (by omega) (by omega)) (ret_eq (e1 ..) (ret_ltE fun m2 hm2 => ?_))
    have hm3 : 0 ≤ m2 ∧ m2 < 2147483629 := by rw [hm2]; exact ⟨Int.emod_nonneg _ (by omega), Int.emod_lt_of_pos _ (by omega)⟩
    clear hm2
    exact ret_eq (pmul_l (by omega) (by omega)) (ret_ltE fun m3 _ => ret_eq (pmod_ok h0) (ret_ok ⟨lm _, _, _, rfl⟩))
theorem source_ok {ns : List Int} {k : Int} (h0 : 0 ≤ k) : Ret (f__law_source ns k) Src2 :=
  ret_noerr (ret_lt (ret_bind (P := fun _ => True) (ret_if (fun h => ret_bind (pidx_get h0 (of_decide_eq_true h)) fun x _ => ret_lt (ret_ok trivial)) fun _ => ret_ok trivial) fun x _ => ret_ok ⟨_, _, rfl⟩))
theorem some_ok {l : List Int} {names : List Str} {most : Int} (hl : Src2 l) (h0 : 0 ≤ most) (h1 : names.length < 1000) : Ret (f__law_some l names most) fun r => Src2 r.2 ∧ r.1.Sublist names ∧ (r.1.length : Int) ≤ most := by
  refine ret_noerr (ret_lt (ret_bind (ret_fold (fun pre (s : List Int × List Str) => Src2 s.1 ∧ s.2.Sublist pre ∧ (s.2.length : Int) ≤ most) ⟨hl, List.Sublist.refl _, by simpa using h0⟩ ?_) fun s hs => ret_ok ⟨hs.1, hs.2.1, hs.2.2⟩))
  rintro pre x post s e ⟨i1, i2, i3⟩
  refine ret_bind (P := fun r : Bool × List Int => Src2 r.2 ∧ (r.1 = true → (s.2.length : Int) < most)) (ret_if (fun h => ret_bind (draw_ok i1 (by omega) (by omega)) fun r hr => ret_ok ⟨hr.2, fun _ => of_decide_eq_true h⟩) fun _ => ret_ok ⟨i1, nofun⟩) fun r hr => ret_if (fun h => ?_) fun h => ?_
  · have hx : s.2.length < 100000 := by have := i2.length_le; rw [e] at h1; simp at h1; omega
    refine ret_eq (psnoc_ok hx) (ret_ok ⟨hr.1, i2.append (List.Sublist.refl [x]), ?_⟩)
    have := hr.2 h
    rw [List.length_append]; simp; omega
  · exact ret_ok ⟨hr.1, i2.trans (List.sublist_append_left ..), i3⟩
theorem bound_ok {l : List Int} (hl : Src2 l) : Ret (f__law_bound l) fun r => Src2 r.2 :=
  ret_noerr (ret_bind (draw_ok hl (by omega) (by omega)) fun r hr => ret_if (fun _ => ret_bind (draw_ok hr.2 (by omega) (by omega)) fun q hq => ret_ok hq.2) fun _ => ret_bind (draw_ok hr.2 (by omega) (by omega)) fun q hq => ret_ok hq.2)
def GC (ns : List Str) (c : Con) : Prop := c.1 ∈ ("" : Str) :: ns ∧ c.2.1 ∈ ("" : Str) :: ns ∧ (c.1 = c.2.1 → c.1 = ("" : Str))
theorem constraint_ok {l : List Int} {names : List Str} (hl : Src2 l) (hn : names.length < 1000) : Ret (f__law_constraint l names) fun r => Src2 r.2 ∧ GC names r.1 := by
  refine ret_noerr (ret_eq (pcat_ok (by simp; omega)) (ret_ltE fun ends he => ?_))
  have he : ends = ("" : Str) :: names := he
  have hlen : (0:Int) < ends.length ∧ (ends.length:Int) < 1073741824 := by rw [he]; simp; omega
  refine ret_bind (draw_ok hl hlen.1 hlen.2) fun r hr => ret_bind (pidx_get hr.1.1 hr.1.2) fun x hx => ret_lt (ret_bind (draw_ok hr.2 hlen.1 hlen.2) fun q hq => ret_bind (pidx_get hq.1.1 hq.1.2) fun y hy => ret_lt (ret_bind (P := fun y' => y' ∈ ends ∧ (x = y' → x = ("" : Str))) (ret_if (fun h => ret_lt (ret_ok ⟨by rw [he]; exact List.mem_cons_self .., id⟩)) fun h => ret_ok ⟨hy.1, fun e => ?_⟩) fun y' hy' => ret_bind (bound_ok hq.2) fun b hb => ret_ok ⟨hb, he ▸ hx.1, he ▸ hy'.1, hy'.2⟩))
  by_cases z : x = ("" : Str)
  · exact z
  · exact absurd (by simp [← e, z]) h
def pool8 : List Str := ["a", "a1", "b", "b.c", "c", "d", "x9", "zz"]
def GT (t : List Str × List Con) : Prop := t.1.Sublist pool8 ∧ t.1.length ≤ 4 ∧ t.2.length ≤ 8 ∧ ∀ c ∈ t.2, GC t.1 c
theorem theory_ok {l : List Int} (hl : Src2 l) : Ret (f__law_theory l) fun r => Src2 r.2 ∧ GT r.1 := by
  refine ret_noerr (ret_lt (ret_bind (draw_ok hl (by omega) (by omega)) fun r1 h1 => ret_bind (draw_ok h1.2 (by omega) (by omega)) fun r2 h2 => ret_bind (some_ok h2.2 h2.1.1 ?_) fun r3 h3 => ret_lt (ret_lt (ret_bind (draw_ok h3.1 (by omega) (by omega)) fun r4 h4 => ret_eq (guard_ok (by omega)) (ret_bind (ret_fold (fun pre (s : List Int × List Con) => Src2 s.1 ∧ s.2.length = pre.length ∧ ∀ c ∈ s.2, GC r3.1 c) ⟨h4.2, rfl, by simp⟩ ?_) fun s hs => ret_ok ⟨hs.1, h3.2.1.trans pcut_sub, by show r3.1.length ≤ 4; omega, ?_, hs.2.2⟩)))))
  · have := (pcut_sub (xs := pool8) (a := some r1.1) (b := none)).length_le
    exact Nat.lt_of_le_of_lt this (by decide)
  · rintro pre x post s e ⟨i1, i2, i3⟩
    have hl : r3.1.length < 1000 := by omega
    have hp : pre.length < 9 := by
      have := congrArg List.length e
      rw [rng_len] at this
      simp at this
      omega
    refine ret_bind (constraint_ok i1 hl) fun r hr => ret_eq (psnoc_ok (by omega)) (ret_ok ⟨hr.1, by simp [i2], fun c hc => ?_⟩)
    rcases List.mem_append.mp hc with hc | hc
    · exact i3 c hc
    · rw [List.mem_singleton.mp hc]; exact hr.2
  · show s.2.length ≤ 8
    rw [hs.2.1, rng_len]; omega
theorem pcut_to {α : Type} {xs : List α} {n : Nat} : pcut xs none (some (n : Int)) = xs.take n := by
  unfold pcut
  rw [HT.sIx_none, HT.sIx_nat, List.drop_zero, Nat.sub_zero]
  rcases Nat.le_total n xs.length with h | h
  · rw [Nat.min_eq_left h]
  · rw [Nat.min_eq_right h, List.take_of_length_le h, List.take_of_length_le (Nat.le_refl _)]
def lstD (d : Tb) : List Con := (sortB (ltP ltT ltT) (dkeys d)).filterMap fun k => if k.1 = k.2 then none else some (k.1, k.2, (dlook d k).getD 0)
theorem lst_f {d : Tb} {k : Str × Str} (h : k ∈ dkeys d) : ((if (!decide (k.1 = k.2)) then ((pdget d (k.1, k.2)).bind fun r3 => .ok (some (k.1, k.2, r3))) else .ok none) : Res (Option (Str × Str × Int))) = .ok (if k.1 = k.2 then none else some (k.1, k.2, (dlook d k).getD 0)) := by
  obtain ⟨m, e⟩ := dlook_mem h
  by_cases z : k.1 = k.2
  · simp [z]
  · rw [pdget_ok e, bind_ok, e]
    simp [z]
theorem listed_some {d : Tb} : f_listed (some d) = .ok (lstD d) := ret_to (ret_noerr (ret_if (fun z => by cases z) fun _ => punw (ret_eq psortB_ok (ret_eq (pml_ok fun k hk => lst_f (mem_sortB.mp hk)) (ret_ok rfl)))))
theorem lstD_congr {d d' : Tb} (nd : (dkeys d).Nodup) (nd' : (dkeys d').Nodup) (h : ∀ k, dlook d k = dlook d' k) : lstD d = lstD d' := by
  have hk : ∀ k, k ∈ dkeys d ↔ k ∈ dkeys d' := fun k => ⟨fun q => by
    obtain ⟨m, e⟩ := dlook_mem q
    exact look_key ((h k).symm.trans e), fun q => by
    obtain ⟨m, e⟩ := dlook_mem q
    exact look_key ((h k).trans e)⟩
  unfold lstD
  rw [sortB_congr (stot_ltP stot_ltT stot_ltT) nd nd' hk]
  congr 1
  funext k
  rw [h]
abbrev Obj3 := List Str × Option Tb × List Con
def TG (t : List Str × List Con) : Prop := t.1.length ≤ 4 ∧ ∀ c ∈ t.2, c.1 ∈ ("" : Str) :: t.1 ∧ c.2.1 ∈ ("" : Str) :: t.1
structure Ob (t : List Str × List Con) (a : Obj3) : Prop where
  pl : a.1 = t.1
  st : StT (("" : Str) :: t.1) t.2 a.2.1
  ls : f_listed a.2.1 = .ok a.2.2
theorem listed_all {o : Option Tb} : ∃ L, f_listed o = .ok L := by
  cases o with
  | none => exact ⟨_, rfl⟩
  | some d => exact ⟨_, listed_some⟩
theorem init_ok {t : List Str × List Con} (h : TG t) : Ret (f_Differences___init__ () t) fun r => Ob t r.2 := by
  refine ret_noerr (ret_eq (if_pos (by have := h.1; simp; omega)) (ret_eq (pml_map (g := fun q : Str => ((q, q), (0 : Int))) fun _ _ => rfl) (ret_ltE fun s0 hs0 => ?_)))
  have hs0 : s0 = some (dof ((("" : Str) :: t.1).map fun q : Str => ((q, q), (0 : Int)))) := hs0
  have e0 : (("" : Str) :: t.1).map (fun q : Str => ((q, q), (0 : Int))) = ((("" : Str) :: t.1).map fun q => (q, q)).map fun k => (k, (0 : Int)) := by rw [List.map_map]; rfl
  have G0 : StT (("" : Str) :: t.1) [] s0 := by
    rw [hs0]
    have lk : ∀ k, dlook (dof ((("" : Str) :: t.1).map fun q : Str => ((q, q), (0 : Int)))) k = if k ∈ (("" : Str) :: t.1).map (fun q => (q, q)) then some 0 else none := fun k => by
      rw [e0, dof_look (fun _ => (0 : Int))]
      by_cases z : k ∈ (("" : Str) :: t.1).map (fun q => (q, q))
      · rw [if_pos z, if_pos z]
      · rw [if_neg z, if_neg z]
    have at_ : ∀ {x y m}, dlook (dof ((("" : Str) :: t.1).map fun q : Str => ((q, q), (0 : Int)))) (x, y) = some m → x ∈ ("" : Str) :: t.1 ∧ y = x ∧ m = 0 := fun {x y m} e => by
      rw [lk] at e
      by_cases z : (x, y) ∈ (("" : Str) :: t.1).map (fun q => (q, q))
      · rw [if_pos z] at e; cases e
        obtain ⟨q, hq, e⟩ := List.mem_map.mp z
        cases e
        exact ⟨hq, rfl, rfl⟩
      · rw [if_neg z] at e; cases e
    have dia : ∀ p ∈ ("" : Str) :: t.1, dlook (dof ((("" : Str) :: t.1).map fun q : Str => ((q, q), (0 : Int)))) (p, p) = some 0 := fun p hp => by rw [lk, if_pos (List.mem_map.mpr ⟨p, hp, rfl⟩)]
    refine ⟨⟨dof_nd _, fun k hk => ?_⟩, ⟨dia, by simp, fun s m e a a' h1 h2 => ?_⟩, fun s e m h1 => ?_⟩
    · obtain ⟨m, e⟩ := dlook_mem hk
      obtain ⟨h1, h2, _⟩ := at_ (x := k.1) (y := k.2) e
      exact ⟨h1, h2 ▸ h1⟩
    · obtain ⟨h3, rfl, rfl⟩ := at_ h1
      obtain ⟨h3, rfl, rfl⟩ := at_ h2
      exact ⟨0, h1, by omega⟩
    · obtain ⟨h3, rfl, rfl⟩ := at_ h1
      exact .nil h3
  clear hs0 e0
  refine ret_bind (ret_fold (fun pre s => StT (("" : Str) :: t.1) pre s) G0 ?_) fun s hs => ret_ltE fun p hp => ret_ltE fun s' hs' => ?_
  · rintro pre c post s e i
    have hc := h.2 c (by rw [e]; simp)
    exact ret_bind (tight_ok (by have := h.1; simp; omega) hc.1 hc.2 i) fun r hr => ret_lt (ret_ok hr)
  · obtain ⟨L, hL⟩ := listed_all (o := s)
    subst hs'
    exact ret_eq hL (ret_lt (ret_ok ⟨hp, hs, hL⟩))
theorem add_ok {t : List Str × List Con} {a : Obj3} {c : Con} (h : TG t) (o : Ob t a) (hc : c.1 ∈ ("" : Str) :: t.1 ∧ c.2.1 ∈ ("" : Str) :: t.1) : Ret (f_Differences___add__ a c) (Ob (t.1, t.2 ++ [c])) := by
  have h0 : TG (a.1, []) := ⟨by rw [o.pl]; exact h.1, by simp⟩
  refine ret_noerr (ret_bind (init_ok h0) fun r hr => ret_ltE fun g hg => ret_bind (tight_ok (by have := h.1; simp; omega) hc.1 hc.2 o.st) fun s hs => ret_ltE fun s' hs' => ?_)
  subst hg
  subst hs'
  obtain ⟨L, hL⟩ := listed_all (o := s')
  exact ret_eq hL (ret_lt (ret_ok ⟨hr.pl.trans o.pl, hs, hL⟩))
theorem sat_ok {t : List Str × List Con} {d : Tb} (h : TG t) (F : Fw (("" : Str) :: t.1) t.2 (("" : Str) :: t.1) d) : Ret (f__law_satisfiable t d) fun b => (b = true → ¬ Neg (("" : Str) :: t.1) d) ∧ (b = false → Neg (("" : Str) :: t.1) d) := by
  refine ret_noerr (ret_eq (pcat_ok (by have := h.1; simp; omega)) (ret_eq (pml_filter (p := fun q => decide ((dlook d (q, q)).getD 0 < 0)) fun q hq => ?_) (ret_ok ⟨fun z => ?_, fun z => ?_⟩)))
  · obtain ⟨m, e, _⟩ := F.le0 q hq
    rw [pdget_ok e, bind_ok, e]
    show (if decide (m < 0) = true then (.ok (some q) : Res (Option Str)) else .ok none) = .ok (if decide (m < 0) = true then some q else none)
    by_cases w : m < 0 <;> simp [w]
  · rintro ⟨p, m, hp, e, l⟩
    have z := of_decide_eq_true z
    have : p ∈ ((("" : Str) :: t.1).filter fun q => decide ((dlook d (q, q)).getD 0 < 0)) := List.mem_filter.mpr ⟨hp, by rw [e]; exact decide_eq_true l⟩
    have := List.length_pos_of_mem this
    have z : (((("" : Str) :: t.1).filter fun q => decide ((dlook d (q, q)).getD 0 < 0)).length : Int) = 0 := z
    omega
  · have z := of_decide_eq_false z
    have z : ¬ (((("" : Str) :: t.1).filter fun q => decide ((dlook d (q, q)).getD 0 < 0)).length : Int) = 0 := z
    have : 0 < ((("" : Str) :: t.1).filter fun q => decide ((dlook d (q, q)).getD 0 < 0)).length := by omega
    obtain ⟨p, hp⟩ := List.exists_mem_of_length_pos this
    obtain ⟨h1, h2⟩ := List.mem_filter.mp hp
    obtain ⟨m, e, _⟩ := F.le0 p h1
    rw [e] at h2
    exact ⟨p, m, h1, e, of_decide_eq_true h2⟩
/-! the object is right -/
theorem diff_ok {a : Obj3} {d' : Tb} {d : Tb} {x y : Str} (e : a.2.1 = some d) (h : ∀ k, dlook d k = dlook d' k) : f__law_difference_right a d' true x y = .ok true := by
  have g : f_Differences___getitem__ a (x, y) = .ok (dlook d' (x, y)) := by
    unfold f_Differences___getitem__
    rw [e, ← h]; rfl
  refine ret_to (ret_noerr ?_)
  rw [g, bind_ok]
  unfold ptry
  dsimp only
  refine ret_if (fun z => by cases z) fun _ => ret_if (fun z => ?_) fun z => ?_
  · cases q : dlook d' (x, y) with
    | none => exact ret_ok rfl
    | some m => rw [has_look.mpr ⟨m, q⟩] at z; cases z
  · obtain ⟨m, q⟩ := has_look.mp (by simpa using z : dhas d' (x, y) = true)
    rw [q]
    refine ret_bind (P := fun r : Bool × Unit => r.1 = true) (ret_if (fun _ => punw (ret_eq (pdget_ok q) (ret_ok (decide_eq_true rfl)))) fun z => absurd rfl z) fun r hr => ret_ok hr
theorem diff_none {a : Obj3} {d' : Tb} {x y : Str} (e : a.2.1 = none) : f__law_difference_right a d' false x y = .ok true := by
  have g : f_Differences___getitem__ a (x, y) = .err ⟨3, .no⟩ := by
    unfold f_Differences___getitem__
    rw [e]; rfl
  unfold f__law_difference_right
  rw [g]; rfl
theorem cont_some {a : Obj3} {d : Tb} {x y : Str} {b : Int} (e : a.2.1 = some d) : f_Differences___contains__ a (x, y, b) = .ok (match dlook d (x, y) with | some m => decide (m ≤ b) | none => false) := by
  refine ret_to (ret_noerr ?_)
  rw [e]
  refine ret_bind (P := fun r : Bool × Unit => r.1 = (match dlook d (x, y) with | some m => decide (m ≤ b) | none => false)) (ret_if (fun z => by cases z) fun _ => punw (ret_bind (P := fun r : Bool × Unit => r.1 = (match dlook d (x, y) with | some m => decide (m ≤ b) | none => false)) (ret_if (fun z => ?_) fun z => ret_ok ?_) fun r hr => ret_ok hr)) fun r hr => ret_ok hr
  · obtain ⟨m, q⟩ := has_look.mp z
    exact punw (ret_eq (pdget_ok q) (ret_ok (by rw [q])))
  · cases q : dlook d (x, y) with
    | none => rfl
    | some m => exact absurd (has_look.mpr ⟨m, q⟩) z
theorem cont_none {a : Obj3} {c : Con} (e : a.2.1 = none) : f_Differences___contains__ a c = .ok true := by
  unfold f_Differences___contains__
  rw [e]; rfl
theorem foll_ok {a : Obj3} {d' : Tb} {d : Tb} {x y : Str} (e : a.2.1 = some d) (h : ∀ k, dlook d k = dlook d' k) : f__law_follows_right a d' true x y = .ok true := by
  refine ret_to (ret_noerr (ret_if (fun z => by cases z) fun _ => ret_if (fun z => ?_) fun z => ?_))
  · have q : dlook d (x, y) = none := by
      rw [h]
      cases q : dlook d' (x, y) with
      | none => rfl
      | some m => rw [has_look.mpr ⟨m, q⟩] at z; cases z
    exact ret_eq (cont_some e) (ret_ok (by rw [q]; rfl))
  · obtain ⟨m, q⟩ := has_look.mp (by simpa using z : dhas d' (x, y) = true)
    have q' : dlook d (x, y) = some m := (h _).trans q
    refine ret_eq (pdget_ok q) (ret_eq (cont_some e) (ret_bind (P := fun r : Bool × Unit => r.1 = true) (ret_if (fun _ => ret_eq (pdget_ok q) (ret_eq (cont_some e) (ret_ok ?_))) fun z => absurd ?_ z) fun r hr => ret_ok hr))
    · rw [q']
      show (true ^^ decide (m ≤ m - 1)) = true
      rw [decide_eq_false (by omega)]; rfl
    · rw [q']
      show (false ^^ decide (m ≤ m)) = true
      rw [decide_eq_true (Int.le_refl _)]; rfl
theorem foll_none {a : Obj3} {d' : Tb} {x y : Str} (e : a.2.1 = none) : f__law_follows_right a d' false x y = .ok true :=
  ret_to (ret_noerr (ret_if (fun _ => ret_eq (cont_none e) (ret_bind (P := fun r : Bool × Unit => r.1 = true) (ret_if (fun _ => ret_eq (cont_none e) (ret_ok rfl)) fun z => absurd rfl z) fun r hr => ret_ok hr)) fun z => absurd rfl z))
theorem object_ok {t : List Str × List Con} {a : Obj3} (h : TG t) (o : Ob t a) : f__law_object_right t a = .ok true := by
  refine ret_to (ret_noerr (ret_bind (sums_ok (by have := h.1; omega) h.2) fun d' F => ret_lt (ret_bind (sat_ok h F) fun b hb => ret_lt ?_)))
  -- either both tell all, or both tell of a ring
  have both : (∃ d, a.2.1 = some d ∧ b = true ∧ (∀ k, dlook d k = dlook d' k) ∧ a.2.2 = lstD d') ∨ (a.2.1 = none ∧ b = false ∧ a.2.2 = [(("" : Str), ("" : Str), -1)]) := by
    cases e : a.2.1 with
    | some d =>
      have G : Good (("" : Str) :: t.1) t.2 d := by have := o.st; rw [e] at this; exact this
      have n : ¬ Neg (("" : Str) :: t.1) d' := fun ⟨p, m, hp, q, l⟩ => by
        have := G.clo.ring hp (F.snd _ _ _ q)
        omega
      have hb1 : b = true := by
        cases b with
        | true => rfl
        | false => exact absurd (hb.2 rfl) n
      have same := same_sums G.clo G.snd (F.clo n) F.snd
      have ls := o.ls
      rw [e, listed_some] at ls
      cases ls' : a.2.2
      all_goals
        rw [ls'] at ls
        refine .inl ⟨d, rfl, hb1, same, ?_⟩
        rw [← lstD_congr G.kg.nd F.kg.nd same]
        exact (Res.ok.inj ls).symm
    | none =>
      obtain ⟨p, m, hp, q, l⟩ : Ring (("" : Str) :: t.1) t.2 := by have := o.st; rw [e] at this; exact this
      have hb0 : b = false := by
        cases b with
        | false => rfl
        | true =>
          have := (F.clo (hb.1 rfl)).ring hp q
          omega
      have ls := o.ls
      rw [e] at ls
      exact .inr ⟨rfl, hb0, (Res.ok.inj ls).symm⟩
  have sat : f_Differences_satisfiable a = b := by
    rcases both with ⟨d, e, hb, _⟩ | ⟨e, hb, _⟩ <;> (unfold f_Differences_satisfiable; rw [e, hb]; rfl)
  refine ret_if (fun z => by rw [sat] at z; simp at z) fun _ => ret_lt (ret_bind (P := fun L => L = a.2.2) (ret_if (fun z => ?_) fun z => ret_ok ?_) fun L hL => ?_)
  · rcases both with ⟨d, e, hb1, same, ls⟩ | ⟨e, hb1, _⟩
    · refine ret_eq psortB_ok (ret_eq (pml_ok fun k hk => lst_f (mem_sortB.mp hk)) (ret_lt (ret_ok ?_)))
      rw [ls]; rfl
    · rw [hb1] at z; cases z
  · rcases both with ⟨d, e, hb1, same, ls⟩ | ⟨e, hb1, ls⟩
    · exact absurd hb1 z
    · rw [ls]
  · subst hL
    have len : a.2.2.length ≤ 1000000 := by
      rcases both with ⟨d, e, hb1, same, ls⟩ | ⟨e, hb1, ls⟩
      · rw [ls]
        unfold lstD
        have l1 := List.length_filterMap_le (fun k : Str × Str => if k.1 = k.2 then none else some (k.1, k.2, (dlook d' k).getD 0)) (sortB (ltP ltT ltT) (dkeys d'))
        rw [sortB_len] at l1
        have l2 := F.kg.len
        have l3 : (("" : Str) :: t.1).length ≤ 5 := by have := h.1; simp; omega
        have l4 := Nat.mul_le_mul l3 l3
        have : (dkeys d').length = d'.length := by simp [dkeys]
        omega
      · rw [ls]; decide
    refine ret_bind (P := fun r : Bool × Unit => r.1 = false) (ret_if (fun z => ?_) fun _ => ret_eq (guard_ok ?_) (ret_ok ?_)) fun r hr => ret_if (fun z => by rw [hr] at z; cases z) fun _ => ret_eq (pcat_ok (by have := h.1; simp; omega)) (ret_lt ?_)
    · rw [List.map_id'] at z
      simp at z
    · unfold f_Differences___len__; omega
    · unfold f_Differences___len__; simp
    refine ret_thn (ret_for (fun _ _ => True) (fun _ => True) (fun _ => False) trivial (fun _ _ => trivial) ?_) (fun _ _ => ret_ok rfl) fun _ z => z.elim
    intro pre x post s _ _
    refine ret_thn (ret_for (fun _ _ => True) (fun _ => True) (fun _ => False) trivial (fun _ _ => trivial) ?_) (fun _ _ => ret_ok trivial) fun _ z => z.elim
    intro pre2 y post2 s2 _ _
    have r1 : f__law_difference_right a d' b x y = .ok true := by
      rcases both with ⟨d, e, hb1, same, _⟩ | ⟨e, hb1, _⟩
      · rw [hb1]; exact diff_ok e same
      · rw [hb1]; exact diff_none e
    have r2 : f__law_follows_right a d' b x y = .ok true := by
      rcases both with ⟨d, e, hb1, same, _⟩ | ⟨e, hb1, _⟩
      · rw [hb1]; exact foll_ok e same
      · rw [hb1]; exact foll_none e
    refine ret_eq r1 (ret_if (fun z => by cases z) fun _ => ret_bind (P := fun r : Bool × Unit => r.1 = false) (ret_if (fun _ => ret_eq r2 (ret_ok rfl)) fun _ => ret_ok rfl) fun r hr => ret_if (fun z => by rw [hr] at z; cases z) fun _ => ret_ok trivial)
theorem rng_at2 {lo : Int} {n : Nat} {pre post : List Int} {x : Int} (e : rng lo n = pre ++ x :: post) : x = lo + (pre.length : Int) ∧ pre.length < n := by
  have l : pre.length < n := by
    have := congrArg List.length e
    rw [rng_len] at this
    simp at this
    omega
  have g : (rng lo n)[pre.length]? = some x := by rw [e]; simp
  unfold rng at g
  rw [List.getElem?_map, List.getElem?_range l] at g
  exact ⟨(Option.some.inj g).symm, l⟩
theorem law_pure {ns : List Int} (_ : ns.length ≤ 63) : f_law ns = .ok true := by
  refine ret_to (ret_noerr (ret_bind (source_ok (by omega)) fun r1 h1 => ret_lt (ret_bind (theory_ok h1) fun r2 ⟨h2, g2⟩ => ret_ltE fun t ht => ret_bind (draw_ok h2 (by omega) ?_) fun r3 h3 => ret_ltE fun once ho => ?_)))
  · subst ht; have := g2.2.2.1; omega
  subst ht
  have h3' : 0 ≤ once ∧ once < (r2.1.2.length : Int) + 1 := ho ▸ h3.1
  have hc8 := g2.2.2.1
  have hn4 := g2.2.1
  have ends : ∀ c ∈ r2.1.2, c.1 ∈ ("" : Str) :: r2.1.1 ∧ c.2.1 ∈ ("" : Str) :: r2.1.1 := fun c hc => ⟨(g2.2.2.2 c hc).1, (g2.2.2.2 c hc).2.1⟩
  refine ret_bind (P := fun s : List Int × Int => ∃ n : Nat, s.2 = (n : Int) ∧ n ≤ r2.1.2.length) (ret_bind (draw_ok h3.2 (by omega) (by omega)) fun r4 h4 => ret_if (fun _ => ret_lt (ret_ok ⟨0, rfl, Nat.zero_le _⟩)) fun _ => ret_ok ⟨once.toNat, by show once = _; omega, by omega⟩) fun s1 hs1 => ret_ltE fun known hk => ?_
  obtain ⟨n, en, ln⟩ := hs1
  have hk : known = (r2.1.1, r2.1.2.take n) := by
    rw [hk, en, pcut_to]
  have tk : ∀ k, TG (r2.1.1, r2.1.2.take k) := fun k => ⟨hn4, fun c hc => ends c (List.mem_of_mem_take hc)⟩
  refine ret_bind (init_ok (hk ▸ tk n)) fun r5 h5 => ret_lt (ret_lt (ret_eq (guard_ok (by omega)) (ret_bind (ret_fold (fun pre (s : List Obj3 × List (List Str × List Con)) => s.1.length = pre.length + 1 ∧ s.2.length = pre.length + 1 ∧ (∀ (i : Nat) (t : List Str × List Con) (a : Obj3), s.2[i]? = some t → s.1[i]? = some a → TG t ∧ Ob t a ∧ t.1 = r2.1.1) ∧ ∃ a, s.1[pre.length]? = some a ∧ Ob (r2.1.1, r2.1.2.take (n + pre.length)) a) ⟨rfl, rfl, fun i t a e1 e2 => ?_, r5.2, rfl, hk ▸ h5⟩ ?_) fun s2 hs2 => ?_)))
  · cases i with
    | zero => cases e1; cases e2; exact ⟨hk ▸ tk n, h5, by rw [hk]⟩
    | succ i => simp at e1
  · rintro pre q1 post s e ⟨l1, l2, all, a, ea, oa⟩
    obtain ⟨eq, lt⟩ := rng_at2 e
    have ltc : n + pre.length < r2.1.2.length := by rw [en] at lt; omega
    have i1 : pidx s.1 ((s.1.length : Int) - 1) = .ok a := by
      rw [show ((s.1.length : Int) - 1) = (pre.length : Int) by omega]
      exact pidx_nat ea
    have i2 : pidx r2.1.2 q1 = .ok r2.1.2[n + pre.length] := by
      rw [show q1 = ((n + pre.length : Nat) : Int) by rw [eq, en]; omega]
      exact pidx_nat (List.getElem?_eq_getElem ltc)
    have ci := ends _ (List.getElem_mem ltc)
    refine ret_eq i1 (ret_eq i2 (ret_bind (add_ok (tk _) oa ci) fun r9 h9 => ret_eq (psnoc_ok (by have := congrArg List.length e; rw [rng_len] at this; omega)) (ret_ltE fun kn hkn => ret_eq (psnoc_ok (by have := congrArg List.length e; rw [rng_len] at this; omega)) (ret_ok ?_))))
    have ts : r2.1.2.take (n + pre.length) ++ [r2.1.2[n + pre.length]] = r2.1.2.take (n + pre.length + 1) := by
      rw [List.take_add_one, List.getElem?_eq_getElem ltc]; rfl
    have hkn : kn = (r2.1.1, r2.1.2.take (n + pre.length + 1)) := by
      rw [hkn, show q1 + 1 = ((n + pre.length + 1 : Nat) : Int) by rw [eq, en]; omega, pcut_to]
    have o9 : Ob (r2.1.1, r2.1.2.take (n + pre.length + 1)) r9 := ts ▸ h9
    refine ⟨by simp [l1], by simp [l2], fun i t a' e1 e2 => ?_, r9, by simp [← l1], by simpa [Nat.add_assoc] using o9⟩
    by_cases z : i < pre.length + 1
    · have e1 : (s.2 ++ [kn])[i]? = some t := e1
      have e2 : (s.1 ++ [r9])[i]? = some a' := e2
      rw [List.getElem?_append_left (by omega)] at e1 e2
      exact all i t a' e1 e2
    · have e1 : (s.2 ++ [kn])[i]? = some t := e1
      have e2 : (s.1 ++ [r9])[i]? = some a' := e2
      rw [List.getElem?_append_right (by omega)] at e1 e2
      have z0 : i - s.2.length = 0 := by
        have := (List.getElem?_eq_some_iff.mp e1).1
        simp at this
        omega
      rw [z0] at e1
      rw [show i - s.1.length = 0 by omega] at e2
      cases e1; cases e2
      exact ⟨hkn ▸ tk _, hkn ▸ o9, by rw [hkn]⟩
  obtain ⟨l1, l2, all, _⟩ := hs2
  rw [rng_len, en] at l1 l2
  have N9 : s2.1.length ≤ 9 := by omega
  have at_ : ∀ q : Int, 0 ≤ q → q < (s2.1.length : Int) → ∃ t a, pidx s2.2 q = .ok t ∧ pidx s2.1 q = .ok a ∧ TG t ∧ Ob t a ∧ t.1 = r2.1.1 := fun q q0 q1 => by
    obtain ⟨m, rfl⟩ : ∃ m : Nat, q = (m : Int) := ⟨q.toNat, by omega⟩
    have b1 : m < s2.1.length := by omega
    have b2 : m < s2.2.length := by omega
    exact ⟨_, _, pidx_nat (List.getElem?_eq_getElem b2), pidx_nat (List.getElem?_eq_getElem b1), all m _ _ (List.getElem?_eq_getElem b2) (List.getElem?_eq_getElem b1)⟩
  have right : ∀ q : Int, 0 ≤ q → q < (s2.1.length : Int) → ∀ {β : Type} {k : Bool → Res β} {Q : β → Prop}, Ret (k true) Q → Ret ((pidx s2.2 q).bind fun r14 => (pidx s2.1 q).bind fun r15 => (f__law_object_right r14 r15).bind k) Q := fun q q0 q1 β k Q h => by
    obtain ⟨t, a, e1, e2, e3, e4, _⟩ := at_ q q0 q1
    exact ret_eq e1 (ret_eq e2 (ret_eq (object_ok e3 e4) h))
  refine ret_bind (source_ok (by omega)) fun r10 h10 => ret_bind (draw_ok h10 (by omega) (by omega)) fun r11 h11 => ret_ltE fun again ha => ret_eq (guard_ok (by omega)) (ret_eq (pcat_ok (by simp [rng_len]; omega)) (ret_thn (ret_for (fun _ _ => True) (fun _ => True) (fun _ => False) trivial (fun _ _ => trivial) ?_) (fun _ _ => ?_) fun _ z => z.elim))
  · intro pre q post s e _
    have hq : q ∈ rng 0 ((s2.1.length : Int)).toNat ++ [again] := by rw [e]; simp
    have hb : 0 ≤ q ∧ q < (s2.1.length : Int) := by
      rcases List.mem_append.mp hq with h | h
      · unfold rng at h
        obtain ⟨k, hk1, hk2⟩ := List.mem_map.mp h
        have := List.mem_range.mp hk1
        omega
      · rw [List.mem_singleton.mp h, ha]; exact h11.1
    exact right q hb.1 hb.2 (ret_if (fun z => by cases z) fun _ => ret_ok trivial)
  · have hb : 0 ≤ again ∧ again < (s2.1.length : Int) := ha ▸ h11.1
    obtain ⟨t, a, e1, e2, e3, e4, e5⟩ := at_ again hb.1 hb.2
    refine ret_eq e2 (ret_bind (source_ok (by omega)) fun r18 h18 => ret_bind (constraint_ok h18 (by omega)) fun r19 h19 => ret_bind (add_ok e3 e4 (by rw [e5]; exact ⟨h19.2.1, h19.2.2.1⟩)) fun r20 h20 => ret_lt (ret_bind (P := fun r : Bool × Unit => r.1 = true) (ret_if (fun _ => right again hb.1 hb.2 (ret_ok rfl)) fun z => absurd (by cases f_Differences_satisfiable r20 <;> rfl) z) fun r hr => ret_ok hr))
end Sl
namespace Sl
open PySem PySem.Spec PyProof.Rows L2 Mi
local macro_rules | `(tactic| walk_at "subc") => `(tactic| first | exact Sub.nil | (refine Sub.same ?_; walk_at "subc") | (refine Sub.any ?_; walk_at "subc"))
local macro_rules | `(tactic| walk_at "nonn") => `(tactic| (intro x S H v h e; subst e; first | (obtain ⟨_, _, h, _⟩ := h; cases h; done) | (obtain ⟨_, _, _, h, _⟩ := h; cases h; done) | (cases h; done)))
def topS (i : Nat) : Stmt := PySem.Challenge.pw_shadowlinks_k16_differences_grow.main.body.getD i (.Pass ⟨0, 0, 0, 0⟩)
def clsB : Stmt → List Stmt
  | .ClassDef (body := b) .. => b
  | _ => []
def topM (i j : Nat) : Stmt := (clsB (topS i)).getD j (.Pass ⟨0, 0, 0, 0⟩)
abbrev N_Differences___init__ : List Str := ["self", "theory", "sums", "constraint", "end"]
theorem sc_Differences___init__ : FnScope N_Differences___init__ ["self", "theory"] (defScope (topM 7 0)) := ⟨rfl, rfl, rfl, by decide +kernel, rfl, by decide +kernel, by decide +kernel⟩
abbrev N_Differences_satisfiable : List Str := ["self"]
theorem sc_Differences_satisfiable : FnScope N_Differences_satisfiable ["self"] (defScope (topM 7 1)) := ⟨rfl, rfl, rfl, by decide +kernel, rfl, by decide +kernel, by decide +kernel⟩
abbrev N_Differences___len__ : List Str := ["self"]
theorem sc_Differences___len__ : FnScope N_Differences___len__ ["self"] (defScope (topM 7 4)) := ⟨rfl, rfl, rfl, by decide +kernel, rfl, by decide +kernel, by decide +kernel⟩
abbrev N_Differences___iter__ : List Str := ["self"]
theorem sc_Differences___iter__ : FnScope N_Differences___iter__ ["self"] (defScope (topM 7 5)) := ⟨rfl, rfl, rfl, by decide +kernel, rfl, by decide +kernel, by decide +kernel⟩
abbrev N_Differences___contains__ : List Str := ["self", "constraint", "x", "y", "bound"]
theorem sc_Differences___contains__ : FnScope N_Differences___contains__ ["self", "constraint"] (defScope (topM 7 6)) := ⟨rfl, rfl, rfl, by decide +kernel, rfl, by decide +kernel, by decide +kernel⟩
abbrev N_Differences___getitem__ : List Str := ["self", "at", "x", "y"]
theorem sc_Differences___getitem__ : FnScope N_Differences___getitem__ ["self", "at"] (defScope (topM 7 7)) := ⟨rfl, rfl, rfl, by decide +kernel, rfl, by decide +kernel, by decide +kernel⟩
abbrev N_Differences___add__ : List Str := ["self", "constraint", "grown"]
theorem sc_Differences___add__ : FnScope N_Differences___add__ ["self", "constraint"] (defScope (topM 7 8)) := ⟨rfl, rfl, rfl, by decide +kernel, rfl, by decide +kernel, by decide +kernel⟩
abbrev N_tightened : List Str := ["sums", "constraint", "x", "y", "bound", "total", "into", "onward", "found", "start", "first", "end", "last", "pair"]
theorem sc_tightened : FnScope N_tightened ["sums", "constraint"] (defScope (topS 5)) := ⟨rfl, rfl, rfl, by decide +kernel, rfl, by decide +kernel, by decide +kernel⟩
abbrev N_listed : List Str := ["sums", "x", "y"]
theorem sc_listed : FnScope N_listed ["sums"] (defScope (topS 6)) := ⟨rfl, rfl, rfl, by decide +kernel, rfl, by decide +kernel, by decide +kernel⟩
abbrev N__law_source : List Str := ["_law_script", "_law_k", "_law_number"]
theorem sc__law_source : FnScope N__law_source ["_law_script", "_law_k"] (defScope (topS 9)) := ⟨rfl, rfl, rfl, by decide +kernel, rfl, by decide +kernel, by decide +kernel⟩
abbrev N__law_draw : List Str := ["_law_source_here", "_law_limit", "_law_number", "_law_mixed"]
theorem sc__law_draw : FnScope N__law_draw ["_law_source_here", "_law_limit"] (defScope (topS 10)) := ⟨rfl, rfl, rfl, by decide +kernel, rfl, by decide +kernel, by decide +kernel⟩
abbrev N__law_some : List Str := ["_law_source_here", "_law_names", "_law_most", "_law_found", "_law_name"]
theorem sc__law_some : FnScope N__law_some ["_law_source_here", "_law_names", "_law_most"] (defScope (topS 11)) := ⟨rfl, rfl, rfl, by decide +kernel, rfl, by decide +kernel, by decide +kernel⟩
abbrev N__law_bound : List Str := ["_law_source_here"]
theorem sc__law_bound : FnScope N__law_bound ["_law_source_here"] (defScope (topS 12)) := ⟨rfl, rfl, rfl, by decide +kernel, rfl, by decide +kernel, by decide +kernel⟩
abbrev N__law_constraint : List Str := ["_law_source_here", "_law_names", "_law_ends", "_law_x", "_law_y"]
theorem sc__law_constraint : FnScope N__law_constraint ["_law_source_here", "_law_names"] (defScope (topS 13)) := ⟨rfl, rfl, rfl, by decide +kernel, rfl, by decide +kernel, by decide +kernel⟩
abbrev N__law_theory : List Str := ["_law_source_here", "_law_pool", "_law_names", "_law_constraints", "_law_k"]
theorem sc__law_theory : FnScope N__law_theory ["_law_source_here"] (defScope (topS 14)) := ⟨rfl, rfl, rfl, by decide +kernel, rfl, by decide +kernel, by decide +kernel⟩
abbrev N__law_sums : List Str := ["_law_theory_here", "_law_places", "_law_sums_here", "_law_place", "_law_constraint_here", "_law_pair", "_law_middle", "_law_x", "_law_y", "_law_total"]
theorem sc__law_sums : FnScope N__law_sums ["_law_theory_here"] (defScope (topS 15)) := ⟨rfl, rfl, rfl, by decide +kernel, rfl, by decide +kernel, by decide +kernel⟩
abbrev N__law_satisfiable : List Str := ["_law_theory_here", "_law_sums_here", "_law_place"]
theorem sc__law_satisfiable : FnScope N__law_satisfiable ["_law_theory_here", "_law_sums_here"] (defScope (topS 16)) := ⟨rfl, rfl, rfl, by decide +kernel, rfl, by decide +kernel, by decide +kernel⟩
abbrev N__law_is_int : List Str := ["_law_value"]
theorem sc__law_is_int : FnScope N__law_is_int ["_law_value"] (defScope (topS 17)) := ⟨rfl, rfl, rfl, by decide +kernel, rfl, by decide +kernel, by decide +kernel⟩
abbrev N__law_difference_right : List Str := ["_law_actual", "_law_sums_here", "_law_there", "_law_x", "_law_y", "_law_told", "e"]
theorem sc__law_difference_right : FnScope N__law_difference_right ["_law_actual", "_law_sums_here", "_law_there", "_law_x", "_law_y"] (defScope (topS 18)) := ⟨rfl, rfl, rfl, by decide +kernel, rfl, by decide +kernel, by decide +kernel⟩
abbrev N__law_follows_right : List Str := ["_law_actual", "_law_sums_here", "_law_there", "_law_x", "_law_y"]
theorem sc__law_follows_right : FnScope N__law_follows_right ["_law_actual", "_law_sums_here", "_law_there", "_law_x", "_law_y"] (defScope (topS 19)) := ⟨rfl, rfl, rfl, by decide +kernel, rfl, by decide +kernel, by decide +kernel⟩
abbrev N__law_object_right : List Str := ["_law_theory_here", "_law_actual", "_law_sums_here", "_law_there", "_law_expected", "_law_ends", "_law_x", "_law_y", "_law_pair", "_law_constraint_here"]
theorem sc__law_object_right : FnScope N__law_object_right ["_law_theory_here", "_law_actual"] (defScope (topS 20)) := ⟨rfl, rfl, rfl, by decide +kernel, rfl, by decide +kernel, by decide +kernel⟩
abbrev N_law : List Str := ["_law_script", "_law_source_here", "_law_theory_here", "_law_at_once", "_law_known", "_law_objects", "_law_theories", "_law_k", "_law_again", "_law_other"]
theorem sc_law : FnScope N_law ["_law_script"] (defScope (topS 21)) := ⟨rfl, rfl, rfl, by decide +kernel, rfl, by decide +kernel, by decide +kernel⟩
structure Txt (K : PySem.W.Frag) (mg : Str → Option Value) (A : Nat → Addr) (D : Nat → FuncData) : Prop where
  g_ShadowError : mg "ShadowError" = some (.ref (A 2))
  g_NoSolution : mg "NoSolution" = some (.ref (A 3))
  E0_NoSolution : Err0 K mg "NoSolution" (A 3)
  x_NoSolution_ShadowError : PySem.W.exmOne K (.ref (A 3)) (.ref (A 2)) = some true
  k_NoSolution_ShadowError : PySem.W.kitOne K (.ref (A 3)) (.ref (A 2)) = some true
  x_NoSolution_NoSolution : PySem.W.exmOne K (.ref (A 3)) (.ref (A 3)) = some true
  k_NoSolution_NoSolution : PySem.W.kitOne K (.ref (A 3)) (.ref (A 3)) = some true
  kv_NoSolution : PySem.W.kitOne K (.ref (A 3)) (.type "ValueError") = some true
  g_Differences : mg "Differences" = some (.ref (A 7))
  cl_Differences : Cls K (A 7)
  cr_Differences : ClX.CRead K (A 7) (.type "type")
  sf_Differences : PySem.W.selfFirst K (A 7) = true
  n_Differences_places : NoAttr K (A 7) "places"
  n_Differences_sums : NoAttr K (A 7) "sums"
  n_Differences_constraints : NoAttr K (A 7) "constraints"
  mk_Differences : Mk K (A 7) (A 1140)
  F_Differences___init__ : Fun K "__init__" "Differences.__init__" (topM 7 0) (A 1140) (D 1140)
  b_Differences___init__ : Binds K (D 1140) ["self", "theory"] []
  M_Differences___init__ : Meth K (A 7) "__init__" (A 1140)
  F_Differences_satisfiable : Fun K "satisfiable" "Differences.satisfiable" (topM 7 1) (A 1141) (D 1141)
  b_Differences_satisfiable : Binds K (D 1141) ["self"] []
  P_Differences_satisfiable : PropOf K (A 7) "satisfiable" (A 6141) (A 1141)
  F_Differences___len__ : Fun K "__len__" "Differences.__len__" (topM 7 4) (A 1144) (D 1144)
  b_Differences___len__ : Binds K (D 1144) ["self"] []
  M_Differences___len__ : Meth K (A 7) "__len__" (A 1144)
  F_Differences___iter__ : Fun K "__iter__" "Differences.__iter__" (topM 7 5) (A 1145) (D 1145)
  b_Differences___iter__ : Binds K (D 1145) ["self"] []
  M_Differences___iter__ : Meth K (A 7) "__iter__" (A 1145)
  F_Differences___contains__ : Fun K "__contains__" "Differences.__contains__" (topM 7 6) (A 1146) (D 1146)
  b_Differences___contains__ : Binds K (D 1146) ["self", "constraint"] []
  M_Differences___contains__ : Meth K (A 7) "__contains__" (A 1146)
  F_Differences___getitem__ : Fun K "__getitem__" "Differences.__getitem__" (topM 7 7) (A 1147) (D 1147)
  b_Differences___getitem__ : Binds K (D 1147) ["self", "at"] []
  M_Differences___getitem__ : Meth K (A 7) "__getitem__" (A 1147)
  F_Differences___add__ : Fun K "__add__" "Differences.__add__" (topM 7 8) (A 1148) (D 1148)
  b_Differences___add__ : Binds K (D 1148) ["self", "constraint"] []
  M_Differences___add__ : Meth K (A 7) (PySem.dunder (Operator.Add).info.2) (A 1148)
  B_Differences_Add_tuple : SeqT K (A 7) (Operator.Add) "tuple"
  F_tightened : Fun K "tightened" "tightened" (topS 5) (A 5) (D 5)
  g_tightened : mg "tightened" = some (.ref (A 5))
  b_tightened : Binds K (D 5) ["sums", "constraint"] []
  F_listed : Fun K "listed" "listed" (topS 6) (A 6) (D 6)
  g_listed : mg "listed" = some (.ref (A 6))
  b_listed : Binds K (D 6) ["sums"] []
  F__law_source : Fun K "_law_source" "_law_source" (topS 9) (A 9) (D 9)
  g__law_source : mg "_law_source" = some (.ref (A 9))
  b__law_source : Binds K (D 9) ["_law_script", "_law_k"] []
  F__law_draw : Fun K "_law_draw" "_law_draw" (topS 10) (A 10) (D 10)
  g__law_draw : mg "_law_draw" = some (.ref (A 10))
  b__law_draw : Binds K (D 10) ["_law_source_here", "_law_limit"] []
  F__law_some : Fun K "_law_some" "_law_some" (topS 11) (A 11) (D 11)
  g__law_some : mg "_law_some" = some (.ref (A 11))
  b__law_some : Binds K (D 11) ["_law_source_here", "_law_names", "_law_most"] []
  F__law_bound : Fun K "_law_bound" "_law_bound" (topS 12) (A 12) (D 12)
  g__law_bound : mg "_law_bound" = some (.ref (A 12))
  b__law_bound : Binds K (D 12) ["_law_source_here"] []
  F__law_constraint : Fun K "_law_constraint" "_law_constraint" (topS 13) (A 13) (D 13)
  g__law_constraint : mg "_law_constraint" = some (.ref (A 13))
  b__law_constraint : Binds K (D 13) ["_law_source_here", "_law_names"] []
  F__law_theory : Fun K "_law_theory" "_law_theory" (topS 14) (A 14) (D 14)
  g__law_theory : mg "_law_theory" = some (.ref (A 14))
  b__law_theory : Binds K (D 14) ["_law_source_here"] []
  F__law_sums : Fun K "_law_sums" "_law_sums" (topS 15) (A 15) (D 15)
  g__law_sums : mg "_law_sums" = some (.ref (A 15))
  b__law_sums : Binds K (D 15) ["_law_theory_here"] []
  F__law_satisfiable : Fun K "_law_satisfiable" "_law_satisfiable" (topS 16) (A 16) (D 16)
  g__law_satisfiable : mg "_law_satisfiable" = some (.ref (A 16))
  b__law_satisfiable : Binds K (D 16) ["_law_theory_here", "_law_sums_here"] []
  F__law_is_int : Fun K "_law_is_int" "_law_is_int" (topS 17) (A 17) (D 17)
  g__law_is_int : mg "_law_is_int" = some (.ref (A 17))
  b__law_is_int : Binds K (D 17) ["_law_value"] []
  F__law_difference_right : Fun K "_law_difference_right" "_law_difference_right" (topS 18) (A 18) (D 18)
  g__law_difference_right : mg "_law_difference_right" = some (.ref (A 18))
  b__law_difference_right : Binds K (D 18) ["_law_actual", "_law_sums_here", "_law_there", "_law_x", "_law_y"] []
  F__law_follows_right : Fun K "_law_follows_right" "_law_follows_right" (topS 19) (A 19) (D 19)
  g__law_follows_right : mg "_law_follows_right" = some (.ref (A 19))
  b__law_follows_right : Binds K (D 19) ["_law_actual", "_law_sums_here", "_law_there", "_law_x", "_law_y"] []
  F__law_object_right : Fun K "_law_object_right" "_law_object_right" (topS 20) (A 20) (D 20)
  g__law_object_right : mg "_law_object_right" = some (.ref (A 20))
  b__law_object_right : Binds K (D 20) ["_law_theory_here", "_law_actual"] []
  F_law : Fun K "law" "law" (topS 21) (A 21) (D 21)
  g_law : mg "law" = some (.ref (A 21))
  b_law : Binds K (D 21) ["_law_script"] []
  z_len : mg "len" = none
  z_int : mg "int" = none
  z_bool : mg "bool" = none
  z_list : mg "list" = none
  z_tuple : mg "tuple" = none
  z_range : mg "range" = none
  z_sorted : mg "sorted" = none
  z_isinstance : mg "isinstance" = none
  z_iter : mg "iter" = none
  z_ValueError : mg "ValueError" = none
abbrev yO_Differences (P : Program) (w : World) (K : PySem.W.Frag) (A : Nat → Addr) (x : ((List Str) × (Option (List ((Str × Str) × Int))) × (List (Str × Str × Int)))) : Pv := pObj (A 7) [("places", (yTup K yStr) x.1), ("sums", (yOpt (yDn K P w (yPr K yStr yStr) yInt)) x.2.1), ("constraints", (yTup K (yTr K yStr yStr yInt)) x.2.2)]
abbrev wO_Differences (P : Program) (w : World) (K : PySem.W.Frag) (A : Nat → Addr) (x : ((List Str) × (Option (List ((Str × Str) × Int))) × (List (Str × Str × Int)))) : Ow := wIns (A 7) [("places", (yTup K yStr) x.1), ("sums", (yOpt (yDn K P w (yPr K yStr yStr) yInt)) x.2.1), ("constraints", (yTup K (yTr K yStr yStr yInt)) x.2.2)]
section
variable {P : Program} {w : World} {K : PySem.W.Frag} {mg : Str → Option Value} {base : Heap} {A : Nat → Addr} {D : Nat → FuncData}
theorem ok_Differences___iter__ (T : Txt K mg A D) : FnSz P w K mg base CX0 1 (A 1145) (D 1145) ["self"] (spIt K (tpF "constraints" (A 7))) := by
  obtain ⟨oc0, od0, kV0, doc0, pm0, an0, cdv, ct0, osl0, e0, lk, hcd⟩ := T.F_Differences___iter__.ex
  rw [e0] at lk
  rw [e0]
  refine fn_sz lk hcd sc_Differences___iter__ (fun n vs H Q E h => ?_) (fun A' outer s H vs Q E hr h => ?_)
  · obtain ⟨x, t, zs, rfl, ht, hz, q⟩ := h
    rfl
  · obtain ⟨x, t, zs, rfl, ht, hz, q⟩ := h
    have hu := hu_of hr
    refine ⟨_, (pss_one (ps_ret (pe_callB (id := "iter") call_iterV (by rfl) T.z_iter (by decide +kernel) (pa_cons (pe_fld (pv 0) rfl) pa_nil)))), ?_⟩
    obtain ⟨dx, fs9, h9, l9⟩ := ht
    exact ⟨_, rfl, x, A 7, dx, fs9, _, rfl, h9, T.cl_Differences, T.n_Differences_constraints, l9, t, zs, rfl, hz, fun it h0 hn => q it h0 hn⟩
def pre_listed (P : Program) (w : World) (K : PySem.W.Frag) (A : Nat → Addr) : List Ar → Cl → Prop := fun as d => ∃ (sums : (Option (List ((Str × Str) × Int)))), as = [.val ((yOpt (yDn K P w (yPr K yStr yStr) yInt)) sums)] ∧ d = ⟨((List (Str × Str × Int))), f_listed sums, fun r => .val ((yTup K (yTr K yStr yStr yInt)) r), fun r => []⟩
theorem ok_listed (T : Txt K mg A D) : FnOk P w K mg base CX0 1 (A 6) (D 6) ["sums"] (spM A (pre_listed P w K A)) := by
  refine T.F_listed.ok sc_listed (fun vs H Q E h => ?_) (fun cdv A' outer s H vs Q E hr h => ?_)
  · exact spM_len h fun as d hp => by obtain ⟨sums, rfl, rfl⟩ := hp; rfl
  · have hu := hu_of hr
    refine ⟨_, (pss_cons (ps_if (pt_cmpR op_isN (pv 0) pe_non (nomark _))
        (pss_one (ps_ret (pe_tup (pa_cons (pe_tup (pa_cons pe_str (pa_cons pe_str (pa_cons (pe_un un_neg pe_int) pa_nil)))) pa_nil))))
        pss_nil)
      (pss_one (ps_ret (pe_callTy (T := "tuple") (cK_tuple (K := K) rfl) (by rfl) T.z_tuple (by decide +kernel) (pa_cons (pe_lc (own := [("x", 1), ("y", 2)])   rfl sc_listed.nd (iK_list (K := K) rfl (pe_callB (id := "sorted") (cW_sorted (K := K) rfl hr.units) (by rfl) T.z_sorted (by decide +kernel) (pa_cons (pe_callTy (T := "list") (call_listN (VN P w) rfl rfl rfl) (by rfl) T.z_list (by decide +kernel) (pa_cons (pv 0) pa_nil)) pa_nil))) (blkOk_by (N := N_listed) (sc := defScope (topS 6)) (by decide +kernel)) (fun _ _ _ _ _ => (gK_tup (K := K) 2 rfl rfl (pgs_cons (pg_name (i := 1) sc_listed.nd rfl (Or.inl rfl)) (pgs_cons (pg_name (i := 2) sc_listed.nd rfl (Or.inl rfl)) pgs_nil)))) (fun _ _ _ _ _ => (pts_one (pt_cmpR op_ne (pv 1) (pv 2) (nomark _)))) (fun _ _ _ _ _ => (pe_tup (pa_cons (pv 1) (pa_cons (pv 2) (pa_cons (pe_dgetN (K := K) (G := KyOf K (yPr K yStr yStr)) (VN P w) rfl rfl rfl (kyOf_ok (by decide)) lv7 hr.units (pv 0) (pe_tup (pa_cons (pv 1) (pa_cons (pv 2) pa_nil))) (fun _ _ => rfl)) pa_nil)))))) pa_nil))))), ?_⟩
    refine fn_run0 h (fun as d hp => ?_) fun as d hp => ?_
    · obtain ⟨sums, rfl, rfl⟩ := hp; simp
    · obtain ⟨sums, rfl, rfl⟩ := hp
      refine ⟨_, (show f_listed sums = Res.noerr _ from rfl), ?_⟩
      refine ws_seq ?_
      refine ws_ctx (Γ' := [.val ((yOpt (yDn K P w (yPr K yStr yStr) yInt)) sums), .any, .any]) rfl ?_
      refine ws_if ?_
      refine wt_b ?_
      refine wx_op ?_
      refine wx_var rfl ?_
      refine ⟨_, rfl, ?_⟩
      refine wx_non ?_
      refine ⟨_, rfl, ?_⟩
      refine rx_isN (t := (yDn K P w (yPr K yStr yStr) yInt)) (x := sums) (by walk_at "nonn") ?_
      refine ⟨_, rfl, ?_⟩
      refine ⟨_, _, rfl, ?_, ?_⟩
      · refine ws_ctx (Γ' := [.val ((yOpt (yDn K P w (yPr K yStr yStr) yInt)) sums), .any, .any]) rfl ?_
        refine ws_ret ?_
        refine wx_tup (K := K) ?_
        refine wa_cons ?_
        refine wx_tup (K := K) ?_
        refine wa_cons ?_
        refine wx_str ?_
        refine ⟨_, rfl, ?_⟩
        refine wa_cons ?_
        refine wx_str ?_
        refine ⟨_, rfl, ?_⟩
        refine wa_cons ?_
        refine wx_un ?_
        refine wx_int ?_
        refine ⟨_, rfl, ?_⟩
        refine ru_neg ?_
        refine ⟨_, rfl, ?_⟩
        refine wa_nil ?_
        refine ⟨[yStr ("" : Str), yStr ("" : Str), yInt (-(1 : Int))], rfl, show 3 ≤ 1000 by decide, ?_⟩
        refine ⟨_, rfl, ?_⟩
        refine wa_nil ?_
        refine ⟨[(yTr K yStr yStr yInt) (("" : Str), ("" : Str), (-(1 : Int)))], rfl, show 1 ≤ 1000 by decide, ?_⟩
        exact ⟨_, rfl, rfl, (by first | trivial | exact ⟨rfl, trivial⟩ | exact ⟨rfl, rfl, trivial⟩)⟩
      · refine ws_narrow 0 (yDn K P w (yPr K yStr yStr) yInt) rfl rfl fun r1 => ?_
        refine ws_next ?_
        refine ws_ctx (Γ' := [.val ((yDn K P w (yPr K yStr yStr) yInt) r1), .any, .any]) rfl ?_
        refine ws_ret ?_
        refine wx_cb ?_
        refine wa_cons ?_
        refine wx_fz ?_
        refine wx_lcU (K := K) (yPr K yStr yStr) (yTr K yStr yStr yInt) (gk_tup (gks_cons (gk_name (by decide)) (gks_cons (gk_name (by decide)) gks_nil))) ?_
        refine wi_list ?_
        refine wx_fz ?_
        refine wx_cb ?_
        refine wa_cons ?_
        refine wx_fz ?_
        refine wx_cb ?_
        refine wa_cons ?_
        refine wx_var rfl ?_
        refine ⟨_, rfl, ?_⟩
        refine wa_nil ?_
        refine rc_nlist ?_
        refine ⟨_, rfl, ?_⟩
        refine ⟨_, rfl, ?_⟩
        refine wa_nil ?_
        refine rc_sortQ (K := K) (t := (yPr K yStr yStr)) (Nat.le_of_ble_eq_true rfl) rfl fun r2 => ?_
        refine ⟨_, rfl, ?_⟩
        refine ⟨_, rfl, ?_⟩
        refine ⟨_, r2, _, rfl, rfl, fun q1 => ?_, fun r4 => ?_⟩
        · refine wg_ctx (Γ' := [.val ((yDn K P w (yPr K yStr yStr) yInt) r1), .any, .any]) rfl ?_
          refine wg_tup 2 rfl ?_
          refine wgs_cons ?_
          refine wg_name (show 1 < 3 by decide) ?_
          refine wgs_cons ?_
          refine wg_name (show 2 < 3 by decide) ?_
          refine wgs_nil ?_
          refine wt_b ?_
          refine wx_op ?_
          refine wx_var rfl ?_
          refine ⟨_, rfl, ?_⟩
          refine wx_var rfl ?_
          refine ⟨_, rfl, ?_⟩
          refine rx_ne ?_
          refine ⟨_, rfl, ?_⟩
          refine ⟨_, rfl, ?_⟩
          refine wx_tup (K := K) ?_
          refine wa_cons ?_
          refine wx_var rfl ?_
          refine ⟨_, rfl, ?_⟩
          refine wa_cons ?_
          refine wx_var rfl ?_
          refine ⟨_, rfl, ?_⟩
          refine wa_cons ?_
          refine wx_nget (K := K) (t := (yPr K yStr yStr)) (u := yInt) ?_
          refine wx_var rfl ?_
          refine ⟨r1, rfl, ?_⟩
          refine wx_tup (K := K) ?_
          refine wa_cons ?_
          refine wx_var rfl ?_
          refine ⟨_, rfl, ?_⟩
          refine wa_cons ?_
          refine wx_var rfl ?_
          refine ⟨_, rfl, ?_⟩
          refine wa_nil ?_
          refine ⟨[yStr q1.1, yStr q1.2], rfl, show 2 ≤ 1000 by decide, ?_⟩
          refine ⟨(q1.1, q1.2), _, rfl, rfl, fun r3 => ?_⟩
          refine ⟨_, rfl, ?_⟩
          refine wa_nil ?_
          refine ⟨[yStr q1.1, yStr q1.2, yInt r3], rfl, show 3 ≤ 1000 by decide, ?_⟩
          exact ⟨_, rfl, rfl⟩
        refine ⟨_, rfl, ?_⟩
        refine ⟨_, rfl, ?_⟩
        refine wa_nil ?_
        refine rc_tuple (pLst K) ?_
        exact ⟨_, rfl, rfl, (by first | trivial | exact ⟨rfl, trivial⟩ | exact ⟨rfl, rfl, trivial⟩)⟩
def pre_tightened (P : Program) (w : World) (K : PySem.W.Frag) (A : Nat → Addr) : List Ar → Cl → Prop := fun as d => ∃ (sums : (Option (List ((Str × Str) × Int)))) (constraint : (Str × Str × Int)), as = [.val ((yOpt (yDn K P w (yPr K yStr yStr) yInt)) sums), .val ((yTr K yStr yStr yInt) constraint)] ∧ d = ⟨((Option (List ((Str × Str) × Int)))), f_tightened sums constraint, fun r => .val ((yOpt (yDn K P w (yPr K yStr yStr) yInt)) r), fun r => []⟩
theorem ok_tightened (T : Txt K mg A D) : FnOk P w K mg base CX0 1 (A 5) (D 5) ["sums", "constraint"] (spM A (pre_tightened P w K A)) := by
  refine T.F_tightened.ok sc_tightened (fun vs H Q E h => ?_) (fun cdv A' outer s H vs Q E hr h => ?_)
  · exact spM_len h fun as d hp => by obtain ⟨sums, constraint, rfl, rfl⟩ := hp; rfl
  · have hu := hu_of hr
    refine ⟨_, (pss_cons (ps_asg (pv 1) (gK_tup (K := K) 3 rfl rfl (pgs_cons (pg_name (i := 2) sc_tightened.nd rfl (Or.inr rfl)) (pgs_cons (pg_name (i := 3) sc_tightened.nd rfl (Or.inr rfl)) (pgs_cons (pg_name (i := 4) sc_tightened.nd rfl (Or.inl rfl)) pgs_nil)))))
      (pss_cons (ps_if (PW.pt (pw_or (pt_cmpR op_isN (pv 0) pe_non (nomark _)) (pw_or1 (PW.pt (pw_and (pt_cmp (pc_dinN (K := K) (G := KyOf K (yPr K yStr yStr)) (VN P w) rfl rfl rfl (kyOf_ok (by decide)) lv7 hr.units (pe_tup (pa_cons (pv 3) (pa_cons (pv 2) pa_nil))) (pv 0))) (pw_and1 (pt_cmpR op_lt (pe_op op_add (pe_dgetN (K := K) (G := KyOf K (yPr K yStr yStr)) (VN P w) rfl rfl rfl (kyOf_ok (by decide)) lv7 hr.units (pv 0) (pe_tup (pa_cons (pv 3) (pa_cons (pv 2) pa_nil))) (fun _ _ => rfl)) (pv 4)) pe_int (nomark _))))))))
        (pss_one (ps_ret pe_non))
        pss_nil)
      (pss_cons (ps_setOr (ps_setLc (i := 6) (own := [("pair", 13), ("total", 5)])   rfl sc_tightened.nd rfl rfl (sw_true rfl rfl rfl (by decide +kernel))  (pi_itemsN (VN P w) (pv 0)) (blkOk_by (N := N_tightened) (sc := defScope (topS 5)) (by decide +kernel)) (fun _ _ _ _ _ => (gK_tup (K := K) 2 rfl rfl (pgs_cons (pg_name (i := 13) sc_tightened.nd rfl (Or.inl rfl)) (pgs_cons (pg_name (i := 5) sc_tightened.nd rfl (Or.inl rfl)) pgs_nil)))) (fun _ _ _ _ _ => (pts_one (pt_cmpR op_eq (pe_ix (xK_tup (K := K) rfl) (pv 13) pe_int (fun _ _ => rfl)) (pv 2) (nomark _)))) (fun _ _ _ _ _ => (pe_tup (pa_cons (pe_ix (xK_tup (K := K) rfl) (pv 13) pe_int (fun _ _ => rfl)) (pa_cons (pv 5) pa_nil))))))
      (pss_cons (ps_setOr (ps_setLc (i := 7) (own := [("pair", 13), ("total", 5)])   rfl sc_tightened.nd rfl rfl (sw_true rfl rfl rfl (by decide +kernel))  (pi_itemsN (VN P w) (pv 0)) (blkOk_by (N := N_tightened) (sc := defScope (topS 5)) (by decide +kernel)) (fun _ _ _ _ _ => (gK_tup (K := K) 2 rfl rfl (pgs_cons (pg_name (i := 13) sc_tightened.nd rfl (Or.inl rfl)) (pgs_cons (pg_name (i := 5) sc_tightened.nd rfl (Or.inl rfl)) pgs_nil)))) (fun _ _ _ _ _ => (pts_one (pt_cmpR op_eq (pe_ix (xK_tup (K := K) rfl) (pv 13) pe_int (fun _ _ => rfl)) (pv 3) (nomark _)))) (fun _ _ _ _ _ => (pe_tup (pa_cons (pe_ix (xK_tup (K := K) rfl) (pv 13) pe_int (fun _ _ => rfl)) (pa_cons (pv 5) pa_nil))))))
      (pss_cons (ps_setOr (ps_setDcN (i := 8) (K := K) (G := KyOf K (yPr K yStr yStr)) (κd := VN P w) (own := [("pair", 13)]) (g := gName 13) (tt := tYes) rfl rfl rfl (kyOf_ok (by decide)) lv7 hr.units rfl sc_tightened.nd rfl rfl (sw_dict rfl rfl rfl (by decide +kernel)) (pi_keysN (VN P w) (pv 0)) (blkOk_by (N := N_tightened) (sc := defScope (topS 5)) (by decide +kernel)) (fun _ _ _ _ _ => (pg_name (i := 13) sc_tightened.nd rfl (Or.inl rfl))) (fun _ _ _ _ _ => pts_nil) (fun _ _ _ _ _ => (pv 13)) (fun _ _ _ _ _ => (pe_dgetN (K := K) (G := KyOf K (yPr K yStr yStr)) (VN P w) rfl rfl rfl (kyOf_ok (by decide)) lv7 hr.units (pv 0) (pv 13) (fun _ _ => rfl)))))
      (pss_cons (ps_for PassesOwn.never rfl (iK_list (K := K) rfl (pv 6)) (gK_tup (K := K) 2 rfl rfl (pgs_cons (pg_name (i := 9) sc_tightened.nd rfl (Or.inl rfl)) (pgs_cons (pg_name (i := 10) sc_tightened.nd rfl (Or.inl rfl)) pgs_nil)))
        (pss_one (ps_for PassesOwn.never rfl (iK_list (K := K) rfl (pv 7)) (gK_tup (K := K) 2 rfl rfl (pgs_cons (pg_name (i := 11) sc_tightened.nd rfl (Or.inl rfl)) (pgs_cons (pg_name (i := 12) sc_tightened.nd rfl (Or.inl rfl)) pgs_nil)))
          (pss_cons (ps_set (i := 5) sc_tightened.nd rfl (Or.inl rfl) (pe_op op_add (pe_op op_add (pv 10) (pv 4)) (pv 12)))
          (pss_one (ps_if (PW.pt (pw_or (pt_cmp (pc_dninN (K := K) (G := KyOf K (yPr K yStr yStr)) (VN P w) rfl rfl rfl (kyOf_ok (by decide)) lv7 hr.units (pe_tup (pa_cons (pv 9) (pa_cons (pv 11) pa_nil))) (pv 8))) (pw_or1 (pt_cmpR op_lt (pv 5) (pe_dgetN (K := K) (G := KyOf K (yPr K yStr yStr)) (VN P w) rfl rfl rfl (kyOf_ok (by decide)) lv7 hr.units (pv 8) (pe_tup (pa_cons (pv 9) (pa_cons (pv 11) pa_nil))) (fun _ _ => rfl)) (nomark _)))))
            (pss_one (ps_dputN (K := K) (G := KyOf K (yPr K yStr yStr)) (VN P w) rfl rfl rfl (kyOf_ok (by decide)) lv7 hr.units (pv 8) (pe_tup (pa_cons (pv 9) (pa_cons (pv 11) pa_nil))) (pv 5) rfl))
            pss_nil))))))
      (pss_one (ps_ret (pv 8))))))))), ?_⟩
    refine fn_run0 h (fun as d hp => ?_) fun as d hp => ?_
    · obtain ⟨sums, constraint, rfl, rfl⟩ := hp; simp
    · obtain ⟨sums, constraint, rfl, rfl⟩ := hp
      refine ⟨_, (show f_tightened sums constraint = Res.noerr _ from rfl), ?_⟩
      refine ws_seq ?_
      refine ws_ctx (Γ' := [.val ((yOpt (yDn K P w (yPr K yStr yStr) yInt)) sums), .val ((yTr K yStr yStr yInt) constraint), .any, .any, .any, .any, .any, .any, .any, .any, .any, .any, .any, .any]) rfl ?_
      refine ws_asg ?_
      refine wx_var rfl ?_
      refine ⟨_, rfl, ?_⟩
      refine wg_tup 3 rfl ?_
      refine wgs_cons ?_
      refine wg_name (show 2 < 14 by decide) ?_
      refine wgs_cons ?_
      refine wg_name (show 3 < 14 by decide) ?_
      refine wgs_cons ?_
      refine wg_name (show 4 < 14 by decide) ?_
      refine wgs_nil ?_
      refine ws_seq ?_
      refine ws_ctx (Γ' := [.val ((yOpt (yDn K P w (yPr K yStr yStr) yInt)) sums), .val ((yTr K yStr yStr yInt) constraint), .val (yStr constraint.1), .val (yStr constraint.2.1), .val (yInt constraint.2.2), .any, .any, .any, .any, .any, .any, .any, .any, .any]) rfl ?_
      refine ws_if ?_
      refine wt_orM (μ := Unit) ?_
      refine wt_b ?_
      refine wx_op ?_
      refine wx_var rfl ?_
      refine ⟨_, rfl, ?_⟩
      refine wx_non ?_
      refine ⟨_, rfl, ?_⟩
      refine rx_isN (t := (yDn K P w (yPr K yStr yStr) yInt)) (x := sums) (by walk_at "nonn") ?_
      refine ⟨_, rfl, ?_⟩
      refine ⟨(fun s2 : Unit => [.val ((yOpt (yDn K P w (yPr K yStr yStr) yInt)) sums), .val ((yTr K yStr yStr yInt) constraint), .val (yStr constraint.1), .val (yStr constraint.2.1), .val (yInt constraint.2.2), .any, .any, .any, .any, .any, .any, .any, .any, .any]), _, (), _, rfl, by walk_at "subc", fun _ => ?_, fun r5 => ?_⟩
      · refine wt_andM (μ := Unit) ?_
        refine wt_b ?_
        refine wx_nin (K := K) (t := (yPr K yStr yStr)) (u := yInt) ?_
        refine wx_tup (K := K) ?_
        refine wa_cons ?_
        refine wx_var rfl ?_
        refine ⟨_, rfl, ?_⟩
        refine wa_cons ?_
        refine wx_var rfl ?_
        refine ⟨_, rfl, ?_⟩
        refine wa_nil ?_
        refine ⟨[yStr constraint.2.1, yStr constraint.1], rfl, show 2 ≤ 1000 by decide, ?_⟩
        refine ⟨(constraint.2.1, constraint.1), rfl, ?_⟩
        refine wx_unw (yDn K P w (yPr K yStr yStr) yInt) ?_
        refine wx_var rfl ?_
        refine ⟨sums, _, rfl, rfl, fun r1 => ?_⟩
        refine ⟨r1, rfl, ?_⟩
        refine ⟨_, rfl, ?_⟩
        refine ⟨(fun s1 : Unit => [.val ((yOpt (yDn K P w (yPr K yStr yStr) yInt)) sums), .val ((yTr K yStr yStr yInt) constraint), .val (yStr constraint.1), .val (yStr constraint.2.1), .val (yInt constraint.2.2), .any, .any, .any, .any, .any, .any, .any, .any, .any]), _, (), _, rfl, by walk_at "subc", fun _ => ?_, fun r4 => ?_⟩
        · refine wt_b ?_
          refine wx_op ?_
          refine wx_op ?_
          refine wx_nget (K := K) (t := (yPr K yStr yStr)) (u := yInt) ?_
          refine wx_unw (yDn K P w (yPr K yStr yStr) yInt) ?_
          refine wx_var rfl ?_
          refine ⟨sums, _, rfl, rfl, fun r2 => ?_⟩
          refine ⟨r2, rfl, ?_⟩
          refine wx_tup (K := K) ?_
          refine wa_cons ?_
          refine wx_var rfl ?_
          refine ⟨_, rfl, ?_⟩
          refine wa_cons ?_
          refine wx_var rfl ?_
          refine ⟨_, rfl, ?_⟩
          refine wa_nil ?_
          refine ⟨[yStr constraint.2.1, yStr constraint.1], rfl, show 2 ≤ 1000 by decide, ?_⟩
          refine ⟨(constraint.2.1, constraint.1), _, rfl, rfl, fun r3 => ?_⟩
          refine ⟨_, rfl, ?_⟩
          refine wx_var rfl ?_
          refine ⟨_, rfl, ?_⟩
          refine rx_ari rfl ?_
          refine ⟨_, rfl, ?_⟩
          refine wx_int ?_
          refine ⟨_, rfl, ?_⟩
          refine rx_cmp rfl ?_
          refine ⟨_, rfl, ?_⟩
          exact ⟨_, rfl, by walk_at "subc"⟩
        exact ⟨_, rfl, by walk_at "subc"⟩
      refine ⟨_, _, rfl, ?_, ?_⟩
      · refine ws_ctx (Γ' := [.val ((yOpt (yDn K P w (yPr K yStr yStr) yInt)) sums), .val ((yTr K yStr yStr yInt) constraint), .val (yStr constraint.1), .val (yStr constraint.2.1), .val (yInt constraint.2.2), .any, .any, .any, .any, .any, .any, .any, .any, .any]) rfl ?_
        refine ws_ret ?_
        refine wx_non ?_
        exact ⟨_, rfl, rfl, (by first | trivial | exact ⟨rfl, trivial⟩ | exact ⟨rfl, rfl, trivial⟩)⟩
      · refine ws_narrow 0 (yDn K P w (yPr K yStr yStr) yInt) rfl rfl fun r6 => ?_
        refine ws_next ?_
        refine ws_seq ?_
        refine ws_ctx (Γ' := [.val ((yDn K P w (yPr K yStr yStr) yInt) r6), .val ((yTr K yStr yStr yInt) constraint), .val (yStr constraint.1), .val (yStr constraint.2.1), .val (yInt constraint.2.2), .any, .any, .any, .any, .any, .any, .any, .any, .any]) rfl ?_
        refine ws_setL (yLst K (yPr K yStr yInt)) ?_
        refine wx_fz ?_
        refine wx_lcNI (K := K) (t := (yPr K yStr yStr)) (u := yInt) (v := (yPr K yStr yInt)) (gk_tup (gks_cons (gk_name (by decide)) (gks_cons (gk_name (by decide)) gks_nil))) r6 rfl (f := (fun q1 : ((Str × Str) × Int) => ((if (decide (q1.1.2 = constraint.1)) then .ok (some (q1.1.1, q1.2)) else .ok none) : Res (Option (Str × Int))))) rfl (fun q1 => ?_) fun r7 => ?_
        · refine wg_ctx (Γ' := [.val ((yDn K P w (yPr K yStr yStr) yInt) r6), .val ((yTr K yStr yStr yInt) constraint), .val (yStr constraint.1), .val (yStr constraint.2.1), .val (yInt constraint.2.2), .any, .any, .any, .any, .any, .any, .any, .any, .any]) rfl ?_
          refine wg_tup 2 rfl ?_
          refine wgs_cons ?_
          refine wg_name (show 13 < 14 by decide) ?_
          refine wgs_cons ?_
          refine wg_name (show 5 < 14 by decide) ?_
          refine wgs_nil ?_
          refine wt_b ?_
          refine wx_op ?_
          refine wx_op ?_
          refine wx_var rfl ?_
          refine ⟨_, rfl, ?_⟩
          refine wx_int ?_
          refine ⟨_, rfl, ?_⟩
          refine rx_ixT rfl ?_
          refine ⟨_, rfl, ?_⟩
          refine wx_var rfl ?_
          refine ⟨_, rfl, ?_⟩
          refine rx_eq ?_
          refine ⟨_, rfl, ?_⟩
          refine ⟨_, rfl, ?_⟩
          refine wx_tup (K := K) ?_
          refine wa_cons ?_
          refine wx_op ?_
          refine wx_var rfl ?_
          refine ⟨_, rfl, ?_⟩
          refine wx_int ?_
          refine ⟨_, rfl, ?_⟩
          refine rx_ixT rfl ?_
          refine ⟨_, rfl, ?_⟩
          refine wa_cons ?_
          refine wx_var rfl ?_
          refine ⟨_, rfl, ?_⟩
          refine wa_nil ?_
          refine ⟨[yStr q1.1.1, yInt q1.2], rfl, show 2 ≤ 1000 by decide, ?_⟩
          exact ⟨_, rfl, rfl⟩
        refine ⟨_, rfl, ?_⟩
        refine ⟨r7, _, rfl, show 6 < 14 by decide, rfl, fun into => ?_⟩
        refine ws_seq ?_
        refine ws_ctx (Γ' := [.val ((yDn K P w (yPr K yStr yStr) yInt) r6), .val ((yTr K yStr yStr yInt) constraint), .val (yStr constraint.1), .val (yStr constraint.2.1), .val (yInt constraint.2.2), .any, .val ((yLst K (yPr K yStr yInt)) into), .any, .any, .any, .any, .any, .any, .any]) rfl ?_
        refine ws_setL (yLst K (yPr K yStr yInt)) ?_
        refine wx_fz ?_
        refine wx_lcNI (K := K) (t := (yPr K yStr yStr)) (u := yInt) (v := (yPr K yStr yInt)) (gk_tup (gks_cons (gk_name (by decide)) (gks_cons (gk_name (by decide)) gks_nil))) r6 rfl (f := (fun q2 : ((Str × Str) × Int) => ((if (decide (q2.1.1 = constraint.2.1)) then .ok (some (q2.1.2, q2.2)) else .ok none) : Res (Option (Str × Int))))) rfl (fun q2 => ?_) fun r8 => ?_
        · refine wg_ctx (Γ' := [.val ((yDn K P w (yPr K yStr yStr) yInt) r6), .val ((yTr K yStr yStr yInt) constraint), .val (yStr constraint.1), .val (yStr constraint.2.1), .val (yInt constraint.2.2), .any, .val ((yLst K (yPr K yStr yInt)) into), .any, .any, .any, .any, .any, .any, .any]) rfl ?_
          refine wg_tup 2 rfl ?_
          refine wgs_cons ?_
          refine wg_name (show 13 < 14 by decide) ?_
          refine wgs_cons ?_
          refine wg_name (show 5 < 14 by decide) ?_
          refine wgs_nil ?_
          refine wt_b ?_
          refine wx_op ?_
          refine wx_op ?_
          refine wx_var rfl ?_
          refine ⟨_, rfl, ?_⟩
          refine wx_int ?_
          refine ⟨_, rfl, ?_⟩
          refine rx_ixT rfl ?_
          refine ⟨_, rfl, ?_⟩
          refine wx_var rfl ?_
          refine ⟨_, rfl, ?_⟩
          refine rx_eq ?_
          refine ⟨_, rfl, ?_⟩
          refine ⟨_, rfl, ?_⟩
          refine wx_tup (K := K) ?_
          refine wa_cons ?_
          refine wx_op ?_
          refine wx_var rfl ?_
          refine ⟨_, rfl, ?_⟩
          refine wx_int ?_
          refine ⟨_, rfl, ?_⟩
          refine rx_ixT rfl ?_
          refine ⟨_, rfl, ?_⟩
          refine wa_cons ?_
          refine wx_var rfl ?_
          refine ⟨_, rfl, ?_⟩
          refine wa_nil ?_
          refine ⟨[yStr q2.1.2, yInt q2.2], rfl, show 2 ≤ 1000 by decide, ?_⟩
          exact ⟨_, rfl, rfl⟩
        refine ⟨_, rfl, ?_⟩
        refine ⟨r8, _, rfl, show 7 < 14 by decide, rfl, fun onward => ?_⟩
        refine ws_seq ?_
        refine ws_ctx (Γ' := [.val ((yDn K P w (yPr K yStr yStr) yInt) r6), .val ((yTr K yStr yStr yInt) constraint), .val (yStr constraint.1), .val (yStr constraint.2.1), .val (yInt constraint.2.2), .any, .val ((yLst K (yPr K yStr yInt)) into), .val ((yLst K (yPr K yStr yInt)) onward), .any, .any, .any, .any, .any, .any]) rfl ?_
        refine ws_setO (wDn K P w (yPr K yStr yStr) yInt) ?_
        refine wx_dcN (K := K) (t := (yPr K yStr yStr)) (tq := (yPr K yStr yStr)) (u := yInt) (fun _ => ref_tup) (gk_name (by decide)) r6 rfl (f := (fun q3 : (Str × Str) => (((pdget r6 q3).bind fun r9 => .ok (some (q3, r9))) : Res (Option ((Str × Str) × Int))))) rfl (fun q3 => ?_) fun r10 => ?_
        · refine wg_ctx (Γ' := [.val ((yDn K P w (yPr K yStr yStr) yInt) r6), .val ((yTr K yStr yStr yInt) constraint), .val (yStr constraint.1), .val (yStr constraint.2.1), .val (yInt constraint.2.2), .any, .val ((yLst K (yPr K yStr yInt)) into), .val ((yLst K (yPr K yStr yInt)) onward), .any, .any, .any, .any, .any, .any]) rfl ?_
          refine wg_name (show 13 < 14 by decide) ?_
          refine wt_yes ?_
          refine ⟨_, (if_pos rfl).symm, ?_⟩
          refine wx_var rfl ?_
          refine ⟨q3, rfl, ?_⟩
          refine wx_nget (K := K) (t := (yPr K yStr yStr)) (u := yInt) ?_
          refine wx_var rfl ?_
          refine ⟨r6, rfl, ?_⟩
          refine wx_var rfl ?_
          refine ⟨q3, _, rfl, rfl, fun r9 => ?_⟩
          exact ⟨r9, rfl, rfl⟩
        refine ⟨(dof r10), _, rfl, show 8 < 14 by decide, rfl, fun found => ?_⟩
        refine ws_seq ?_
        refine ws_ctx (Γ' := [.val ((yDn K P w (yPr K yStr yStr) yInt) r6), .val ((yTr K yStr yStr yInt) constraint), .val (yStr constraint.1), .val (yStr constraint.2.1), .val (yInt constraint.2.2), .any, .val ((yLst K (yPr K yStr yInt)) into), .val ((yLst K (yPr K yStr yInt)) onward), .own false ((wDn K P w (yPr K yStr yStr) yInt) found), .any, .any, .any, .any, .any]) rfl ?_
        refine ws_for (μ := ((List ((Str × Str) × Int)))) (yPr K yStr yInt) ?_
        refine wi_list ?_
        refine wx_var rfl ?_
        refine ⟨_, rfl, ?_⟩
        refine ⟨_, (fun s3 : ((List ((Str × Str) × Int))) => [.val ((yDn K P w (yPr K yStr yStr) yInt) r6), .val ((yTr K yStr yStr yInt) constraint), .val (yStr constraint.1), .val (yStr constraint.2.1), .val (yInt constraint.2.2), .any, .val ((yLst K (yPr K yStr yInt)) into), .val ((yLst K (yPr K yStr yInt)) onward), .own false ((wDn K P w (yPr K yStr yStr) yInt) s3), .any, .any, .any, .any, .any]), into, _, _, rfl, rfl, by walk_at "subc", fun s3 q4 => ?_, fun s3 => ?_⟩
        · refine wg_tup 2 rfl ?_
          refine wgs_cons ?_
          refine wg_name (show 9 < 14 by decide) ?_
          refine wgs_cons ?_
          refine wg_name (show 10 < 14 by decide) ?_
          refine wgs_nil ?_
          refine ws_ctx (Γ' := [.val ((yDn K P w (yPr K yStr yStr) yInt) r6), .val ((yTr K yStr yStr yInt) constraint), .val (yStr constraint.1), .val (yStr constraint.2.1), .val (yInt constraint.2.2), .any, .val ((yLst K (yPr K yStr yInt)) into), .val ((yLst K (yPr K yStr yInt)) onward), .own false ((wDn K P w (yPr K yStr yStr) yInt) s3), .val (yStr q4.1), .val (yInt q4.2), .any, .any, .any]) rfl ?_
          refine ws_for (μ := ((List ((Str × Str) × Int)))) (yPr K yStr yInt) ?_
          refine wi_list ?_
          refine wx_var rfl ?_
          refine ⟨_, rfl, ?_⟩
          refine ⟨_, (fun s4 : ((List ((Str × Str) × Int))) => [.val ((yDn K P w (yPr K yStr yStr) yInt) r6), .val ((yTr K yStr yStr yInt) constraint), .val (yStr constraint.1), .val (yStr constraint.2.1), .val (yInt constraint.2.2), .any, .val ((yLst K (yPr K yStr yInt)) into), .val ((yLst K (yPr K yStr yInt)) onward), .own false ((wDn K P w (yPr K yStr yStr) yInt) s4), .val (yStr q4.1), .val (yInt q4.2), .any, .any, .any]), onward, _, _, rfl, rfl, by walk_at "subc", fun s4 q5 => ?_, fun s4 => ?_⟩
          · refine wg_tup 2 rfl ?_
            refine wgs_cons ?_
            refine wg_name (show 11 < 14 by decide) ?_
            refine wgs_cons ?_
            refine wg_name (show 12 < 14 by decide) ?_
            refine wgs_nil ?_
            refine ws_seq ?_
            refine ws_ctx (Γ' := [.val ((yDn K P w (yPr K yStr yStr) yInt) r6), .val ((yTr K yStr yStr yInt) constraint), .val (yStr constraint.1), .val (yStr constraint.2.1), .val (yInt constraint.2.2), .any, .val ((yLst K (yPr K yStr yInt)) into), .val ((yLst K (yPr K yStr yInt)) onward), .own false ((wDn K P w (yPr K yStr yStr) yInt) s4), .val (yStr q4.1), .val (yInt q4.2), .val (yStr q5.1), .val (yInt q5.2), .any]) rfl ?_
            refine ws_setL yInt ?_
            refine wx_op ?_
            refine wx_op ?_
            refine wx_var rfl ?_
            refine ⟨_, rfl, ?_⟩
            refine wx_var rfl ?_
            refine ⟨_, rfl, ?_⟩
            refine rx_ari rfl ?_
            refine ⟨_, rfl, ?_⟩
            refine wx_var rfl ?_
            refine ⟨_, rfl, ?_⟩
            refine rx_ari rfl ?_
            refine ⟨((q4.2 + constraint.2.2) + q5.2), _, rfl, show 5 < 14 by decide, rfl, fun total => ?_⟩
            refine ws_ctx (Γ' := [.val ((yDn K P w (yPr K yStr yStr) yInt) r6), .val ((yTr K yStr yStr yInt) constraint), .val (yStr constraint.1), .val (yStr constraint.2.1), .val (yInt constraint.2.2), .val (yInt total), .val ((yLst K (yPr K yStr yInt)) into), .val ((yLst K (yPr K yStr yInt)) onward), .own false ((wDn K P w (yPr K yStr yStr) yInt) s4), .val (yStr q4.1), .val (yInt q4.2), .val (yStr q5.1), .val (yInt q5.2), .any]) rfl ?_
            refine ws_if ?_
            refine wt_orM (μ := Unit) ?_
            refine wt_b ?_
            refine wx_peek ?_
            refine wx_nnin (K := K) (t := (yPr K yStr yStr)) (u := yInt) ?_
            refine wx_tup (K := K) ?_
            refine wa_cons ?_
            refine wx_var rfl ?_
            refine ⟨_, rfl, ?_⟩
            refine wa_cons ?_
            refine wx_var rfl ?_
            refine ⟨_, rfl, ?_⟩
            refine wa_nil ?_
            refine ⟨[yStr q4.1, yStr q5.1], rfl, show 2 ≤ 1000 by decide, ?_⟩
            refine ⟨(q4.1, q5.1), rfl, ?_⟩
            refine wx_var rfl ?_
            refine ⟨s4, rfl, ?_⟩
            refine ⟨_, rfl, imm_bl, ?_⟩
            refine ⟨_, rfl, ?_⟩
            refine ⟨(fun s5 : Unit => [.val ((yDn K P w (yPr K yStr yStr) yInt) r6), .val ((yTr K yStr yStr yInt) constraint), .val (yStr constraint.1), .val (yStr constraint.2.1), .val (yInt constraint.2.2), .val (yInt total), .val ((yLst K (yPr K yStr yInt)) into), .val ((yLst K (yPr K yStr yInt)) onward), .own false ((wDn K P w (yPr K yStr yStr) yInt) s4), .val (yStr q4.1), .val (yInt q4.2), .val (yStr q5.1), .val (yInt q5.2), .any]), _, (), _, rfl, by walk_at "subc", fun _ => ?_, fun r12 => ?_⟩
            · refine wt_b ?_
              refine wx_op ?_
              refine wx_var rfl ?_
              refine ⟨_, rfl, ?_⟩
              refine wx_peek ?_
              refine wx_nget (K := K) (t := (yPr K yStr yStr)) (u := yInt) ?_
              refine wx_var rfl ?_
              refine ⟨s4, rfl, ?_⟩
              refine wx_tup (K := K) ?_
              refine wa_cons ?_
              refine wx_var rfl ?_
              refine ⟨_, rfl, ?_⟩
              refine wa_cons ?_
              refine wx_var rfl ?_
              refine ⟨_, rfl, ?_⟩
              refine wa_nil ?_
              refine ⟨[yStr q4.1, yStr q5.1], rfl, show 2 ≤ 1000 by decide, ?_⟩
              refine ⟨(q4.1, q5.1), _, rfl, rfl, fun r11 => ?_⟩
              refine ⟨_, rfl, imm_int, ?_⟩
              refine ⟨_, rfl, ?_⟩
              refine rx_cmp rfl ?_
              refine ⟨_, rfl, ?_⟩
              exact ⟨_, rfl, by walk_at "subc"⟩
            refine ⟨_, _, rfl, ?_, ?_⟩
            · refine ws_ctx (Γ' := [.val ((yDn K P w (yPr K yStr yStr) yInt) r6), .val ((yTr K yStr yStr yInt) constraint), .val (yStr constraint.1), .val (yStr constraint.2.1), .val (yInt constraint.2.2), .val (yInt total), .val ((yLst K (yPr K yStr yInt)) into), .val ((yLst K (yPr K yStr yInt)) onward), .own false ((wDn K P w (yPr K yStr yStr) yInt) s4), .val (yStr q4.1), .val (yInt q4.2), .val (yStr q5.1), .val (yInt q5.2), .any]) rfl ?_
              refine ws_nput (K := K) (t := (yPr K yStr yStr)) (u := yInt) (fun _ => ref_tup) ?_
              refine wx_var rfl ?_
              refine ⟨total, rfl, ⟨_, _, rfl⟩, ?_⟩
              refine wx_tup (K := K) ?_
              refine wa_cons ?_
              refine wx_var rfl ?_
              refine ⟨_, rfl, ?_⟩
              refine wa_cons ?_
              refine wx_var rfl ?_
              refine ⟨_, rfl, ?_⟩
              refine wa_nil ?_
              refine ⟨[yStr q4.1, yStr q5.1], rfl, show 2 ≤ 1000 by decide, ?_⟩
              refine ⟨_, (q4.1, q5.1), _, s4, rfl, rfl, rfl, fun d1 => ?_⟩
              exact ⟨_, rfl, by walk_at "subc"⟩
            · refine ws_next ?_
              exact ⟨_, rfl, by walk_at "subc"⟩
          exact ⟨_, rfl, by walk_at "subc"⟩
        refine ws_ctx (Γ' := [.val ((yDn K P w (yPr K yStr yStr) yInt) r6), .val ((yTr K yStr yStr yInt) constraint), .val (yStr constraint.1), .val (yStr constraint.2.1), .val (yInt constraint.2.2), .any, .val ((yLst K (yPr K yStr yInt)) into), .val ((yLst K (yPr K yStr yInt)) onward), .own false ((wDn K P w (yPr K yStr yStr) yInt) s3), .any, .any, .any, .any, .any]) rfl ?_
        refine ws_frz 8 rfl ?_
        refine ws_ret ?_
        refine wx_var rfl ?_
        exact ⟨_, rfl, rfl, (by first | trivial | exact ⟨rfl, trivial⟩ | exact ⟨rfl, rfl, trivial⟩)⟩
def pre_Differences___init__ (P : Program) (w : World) (K : PySem.W.Frag) (A : Nat → Addr) : List Ar → Cl → Prop := fun as d => ∃ (self : Unit) (theory : ((List Str) × (List (Str × Str × Int)))), as = [.io (wIns (A 7) []), .val ((yPr K (yTup K yStr) (yTup K (yTr K yStr yStr yInt))) theory)] ∧ d = ⟨(Unit × ((List Str) × (Option (List ((Str × Str) × Int))) × (List (Str × Str × Int)))), f_Differences___init__ self theory, fun r => .val (yUnit r.1), fun r => [(wO_Differences P w K A) r.2]⟩
theorem ok_Differences___init__ (T : Txt K mg A D) : FnOk P w K mg base CX0 2 (A 1140) (D 1140) ["self", "theory"] (spM A (pre_Differences___init__ P w K A)) := by
  refine T.F_Differences___init__.ok sc_Differences___init__ (fun vs H Q E h => ?_) (fun cdv A' outer s H vs Q E hr h => ?_)
  · exact spM_len h fun as d hp => by obtain ⟨self, theory, rfl, rfl⟩ := hp; rfl
  · have hu := hu_of hr
    have G_tightened : FnOk P w K mg base CX0 1 (A 5) (D 5) ["sums", "constraint"] (spM A (pre_tightened P w K A)) := ok_tightened T
    have G_listed : FnOk P w K mg base CX0 1 (A 6) (D 6) ["sums"] (spM A (pre_listed P w K A)) := ok_listed T
    refine ⟨_, (pss_cons (ps_setDcN (i := 2) (K := K) (G := KyOf K (yPr K yStr yStr)) (κd := VN P w) (own := [("end", 4)]) (g := gName 4) (tt := tYes) rfl rfl rfl (kyOf_ok (by decide)) lv7 hr.units rfl sc_Differences___init__.nd rfl rfl (sw_dict rfl rfl rfl (by decide +kernel)) (iK_tup (K := K) rfl (pe_tup (pa_cons pe_str (StX.pa_star (pe_ix (xK_tup (K := K) rfl) (pv 1) pe_int (fun _ _ => rfl)) pa_nil)))) (blkOk_by (N := N_Differences___init__) (sc := defScope (topM 7 0)) (by decide +kernel)) (fun _ _ _ _ _ => (pg_name (i := 4) sc_Differences___init__.nd rfl (Or.inl rfl))) (fun _ _ _ _ _ => pts_nil) (fun _ _ _ _ _ => (pe_tup (pa_cons (pv 4) (pa_cons (pv 4) pa_nil)))) (fun _ _ _ _ _ => pe_int))
      (pss_cons (ps_for PassesOwn.never rfl (iK_tup (K := K) rfl (pe_ix (xK_tup (K := K) rfl) (pv 1) pe_int (fun _ _ => rfl))) (pg_name (i := 3) sc_Differences___init__.nd rfl (Or.inl rfl))
        (pss_one (ps_set (i := 2) sc_Differences___init__.nd rfl (Or.inl rfl) (pe_call G_tightened (hr.mono (by decide)) rfl T.g_tightened T.F_tightened.kp T.b_tightened .nil pass0 (pa_cons (pv 2) (pa_cons (pv 3) pa_nil))))))
      (pss_cons (ps_fld (pv 0) (pe_ix (xK_tup (K := K) rfl) (pv 1) pe_int (fun _ _ => rfl)) rfl)
      (pss_cons (ps_fld (pv 0) (pv 2) rfl)
      (pss_one (ps_fld (pv 0) (pe_call G_listed (hr.mono (by decide)) rfl T.g_listed T.F_listed.kp T.b_listed .nil pass0 (pa_cons (pv 2) pa_nil)) rfl)))))), ?_⟩
    refine fn_run0 h (fun as d hp => ?_) fun as d hp => ?_
    · obtain ⟨self, theory, rfl, rfl⟩ := hp; simp
    · obtain ⟨self, theory, rfl, rfl⟩ := hp
      refine ⟨_, (show f_Differences___init__ self theory = Res.noerr _ from rfl), ?_⟩
      refine ws_seq ?_
      refine ws_ctx (Γ' := [.own true (wIns (A 7) []), .val ((yPr K (yTup K yStr) (yTup K (yTr K yStr yStr yInt))) theory), .any, .any, .any]) rfl ?_
      refine ws_setL (yOpt (yDn K P w (yPr K yStr yStr) yInt)) ?_
      refine wx_fz ?_
      refine wx_dcU (K := K) (tq := (yPr K yStr yStr)) yStr yInt (fun _ => ref_tup) (gk_name (by decide)) ?_
      refine wi_tup ?_
      refine wx_tupG (K := K) yStr ?_
      refine wa_cons ?_
      refine wx_str ?_
      refine ⟨_, rfl, ?_⟩
      refine wa_star (K := K) (pTup K) ?_
      refine wx_op ?_
      refine wx_var rfl ?_
      refine ⟨_, rfl, ?_⟩
      refine wx_int ?_
      refine ⟨_, rfl, ?_⟩
      refine rx_ixT rfl ?_
      refine ⟨_, rfl, ?_⟩
      refine wa_nil ?_
      refine ⟨([("" : Str)] ++ theory.1 : List Str), _, by simp [vals], rfl, fun r1 => ?_⟩
      refine ⟨_, rfl, ?_⟩
      refine ⟨(fun q1 : Str => (.ok (some ((q1, q1), (0 : Int))) : Res (Option ((Str × Str) × Int)))), r1, _, rfl, rfl, fun q1 => ?_, fun r2 => ?_⟩
      · refine wg_ctx (Γ' := [.any, .val ((yPr K (yTup K yStr) (yTup K (yTr K yStr yStr yInt))) theory), .any, .any, .any]) rfl ?_
        refine wg_name (show 4 < 5 by decide) ?_
        refine wt_yes ?_
        refine ⟨_, (if_pos rfl).symm, ?_⟩
        refine wx_tup (K := K) ?_
        refine wa_cons ?_
        refine wx_var rfl ?_
        refine ⟨_, rfl, ?_⟩
        refine wa_cons ?_
        refine wx_var rfl ?_
        refine ⟨_, rfl, ?_⟩
        refine wa_nil ?_
        refine ⟨[yStr q1, yStr q1], rfl, show 2 ≤ 1000 by decide, ?_⟩
        refine ⟨(q1, q1), rfl, ?_⟩
        refine wx_int ?_
        exact ⟨(0 : Int), rfl, rfl⟩
      refine ⟨_, rfl, ?_⟩
      refine ⟨(some (dof r2)), _, rfl, show 2 < 5 by decide, rfl, fun sums => ?_⟩
      refine ws_seq ?_
      refine ws_ctx (Γ' := [.own true (wIns (A 7) []), .val ((yPr K (yTup K yStr) (yTup K (yTr K yStr yStr yInt))) theory), .val ((yOpt (yDn K P w (yPr K yStr yStr) yInt)) sums), .any, .any]) rfl ?_
      refine ws_for (μ := ((Option (List ((Str × Str) × Int))))) (yTr K yStr yStr yInt) ?_
      refine wi_tup ?_
      refine wx_op ?_
      refine wx_var rfl ?_
      refine ⟨_, rfl, ?_⟩
      refine wx_int ?_
      refine ⟨_, rfl, ?_⟩
      refine rx_ixT rfl ?_
      refine ⟨_, rfl, ?_⟩
      refine ⟨_, (fun s1 : ((Option (List ((Str × Str) × Int)))) => [.own true (wIns (A 7) []), .val ((yPr K (yTup K yStr) (yTup K (yTr K yStr yStr yInt))) theory), .val ((yOpt (yDn K P w (yPr K yStr yStr) yInt)) s1), .any, .any]), theory.2, _, _, rfl, rfl, by walk_at "subc", fun s1 q2 => ?_, fun s1 => ?_⟩
      · refine wg_name (show 3 < 5 by decide) ?_
        refine ws_ctx (Γ' := [.own true (wIns (A 7) []), .val ((yPr K (yTup K yStr) (yTup K (yTr K yStr yStr yInt))) theory), .val ((yOpt (yDn K P w (yPr K yStr yStr) yInt)) s1), .val ((yTr K yStr yStr yInt) q2), .any]) rfl ?_
        refine ws_setL (yOpt (yDn K P w (yPr K yStr yStr) yInt)) ?_
        refine wx_call ?_
        refine wa_cons ?_
        refine wx_var rfl ?_
        refine ⟨_, rfl, ?_⟩
        refine wa_cons ?_
        refine wx_var rfl ?_
        refine ⟨_, rfl, ?_⟩
        refine wa_nil ?_
        refine rc_call _ _ _ ⟨s1, q2, rfl, rfl⟩ ⟨rfl, rfl, trivial⟩ (show List.Nodup ([] : List Nat) by decide) rfl (.inr fun _ z => by first | exact noerr_ne z | exact (nomatch z)) fun r3 _ => ?_
        refine ⟨r3, _, rfl, show 2 < 5 by decide, rfl, fun sums => ?_⟩
        exact ⟨_, rfl, by walk_at "subc"⟩
      refine ws_seq ?_
      refine ws_ctx (Γ' := [.own true (wIns (A 7) []), .val ((yPr K (yTup K yStr) (yTup K (yTr K yStr yStr yInt))) theory), .val ((yOpt (yDn K P w (yPr K yStr yStr) yInt)) s1), .any, .any]) rfl ?_
      refine ws_fsetL (yTup K yStr) T.cl_Differences T.n_Differences_places rfl ?_
      refine wx_op ?_
      refine wx_var rfl ?_
      refine ⟨_, rfl, ?_⟩
      refine wx_int ?_
      refine ⟨_, rfl, ?_⟩
      refine rx_ixT rfl ?_
      refine ⟨_, _, theory.1, _, rfl, rfl, by exact Nat.le_of_ble_eq_true rfl, rfl, fun o1 => ?_⟩
      refine ws_seq ?_
      refine ws_ctx (Γ' := [.own true (wIns (A 7) [("places", (yTup K yStr) o1)]), .val ((yPr K (yTup K yStr) (yTup K (yTr K yStr yStr yInt))) theory), .val ((yOpt (yDn K P w (yPr K yStr yStr) yInt)) s1), .any, .any]) rfl ?_
      refine ws_fsetL (yOpt (yDn K P w (yPr K yStr yStr) yInt)) T.cl_Differences T.n_Differences_sums rfl ?_
      refine wx_var rfl ?_
      refine ⟨_, _, s1, _, rfl, rfl, by exact Nat.le_of_ble_eq_true rfl, rfl, fun o2 => ?_⟩
      refine ws_ctx (Γ' := [.own true (wIns (A 7) [("places", (yTup K yStr) o1), ("sums", (yOpt (yDn K P w (yPr K yStr yStr) yInt)) o2)]), .val ((yPr K (yTup K yStr) (yTup K (yTr K yStr yStr yInt))) theory), .val ((yOpt (yDn K P w (yPr K yStr yStr) yInt)) s1), .any, .any]) rfl ?_
      refine ws_fsetL (yTup K (yTr K yStr yStr yInt)) T.cl_Differences T.n_Differences_constraints rfl ?_
      refine wx_call ?_
      refine wa_cons ?_
      refine wx_var rfl ?_
      refine ⟨_, rfl, ?_⟩
      refine wa_nil ?_
      refine rc_call _ _ _ ⟨s1, rfl, rfl⟩ ⟨rfl, trivial⟩ (show List.Nodup ([] : List Nat) by decide) rfl (.inr fun _ z => by first | exact noerr_ne z | exact (nomatch z)) fun r4 _ => ?_
      refine ⟨_, _, r4, _, rfl, rfl, by exact Nat.le_of_ble_eq_true rfl, rfl, fun o3 => ?_⟩
      exact ⟨_, rfl, rfl, (by first | trivial | exact ⟨rfl, trivial⟩ | exact ⟨rfl, rfl, trivial⟩)⟩
def pre_Differences_satisfiable (P : Program) (w : World) (K : PySem.W.Frag) (A : Nat → Addr) : List Ar → Cl → Prop := fun as d => ∃ (self : ((List Str) × (Option (List ((Str × Str) × Int))) × (List (Str × Str × Int)))), as = [.val ((yO_Differences P w K A) self)] ∧ d = ⟨(Bool), .ok (f_Differences_satisfiable self), fun r => .val (yBl r), fun r => []⟩
theorem ok_Differences_satisfiable (T : Txt K mg A D) : FnOk P w K mg base CX0 1 (A 1141) (D 1141) ["self"] (spM A (pre_Differences_satisfiable P w K A)) := by
  refine T.F_Differences_satisfiable.ok sc_Differences_satisfiable (fun vs H Q E h => ?_) (fun cdv A' outer s H vs Q E hr h => ?_)
  · exact spM_len h fun as d hp => by obtain ⟨self, rfl, rfl⟩ := hp; rfl
  · have hu := hu_of hr
    refine ⟨_, (pss_one (ps_ret (pe_cmpR op_notN (pe_fld (pv 0) rfl) pe_non (nomark _)))), ?_⟩
    refine fn_run h (fun as d hp => ?_) fun as d hp => ?_
    · obtain ⟨self, rfl, rfl⟩ := hp; simp
    · obtain ⟨self, rfl, rfl⟩ := hp
      refine ⟨_, rfl, ?_⟩
      refine ws_ctx (Γ' := [.val ((yO_Differences P w K A) self)]) rfl ?_
      refine ws_ret ?_
      refine wx_op ?_
      refine wx_fld T.cl_Differences T.n_Differences_sums ?_
      refine wx_var rfl ?_
      refine ⟨_, _, rfl, rfl, ?_⟩
      refine ⟨_, rfl, ?_⟩
      refine wx_non ?_
      refine ⟨_, rfl, ?_⟩
      refine rx_notN (t := (yDn K P w (yPr K yStr yStr) yInt)) (x := self.2.1) (by walk_at "nonn") ?_
      exact ⟨_, rfl, rfl, (by first | trivial | exact ⟨rfl, trivial⟩ | exact ⟨rfl, rfl, trivial⟩)⟩
def pre_Differences___len__ (P : Program) (w : World) (K : PySem.W.Frag) (A : Nat → Addr) : List Ar → Cl → Prop := fun as d => ∃ (self : ((List Str) × (Option (List ((Str × Str) × Int))) × (List (Str × Str × Int)))), as = [.val ((yO_Differences P w K A) self)] ∧ d = ⟨(Int), .ok (f_Differences___len__ self), fun r => .val (yInt r), fun r => []⟩
theorem ok_Differences___len__ (T : Txt K mg A D) : FnOk P w K mg base CX0 1 (A 1144) (D 1144) ["self"] (spM A (pre_Differences___len__ P w K A)) := by
  refine T.F_Differences___len__.ok sc_Differences___len__ (fun vs H Q E h => ?_) (fun cdv A' outer s H vs Q E hr h => ?_)
  · exact spM_len h fun as d hp => by obtain ⟨self, rfl, rfl⟩ := hp; rfl
  · have hu := hu_of hr
    refine ⟨_, (pss_one (ps_ret (pe_callB (id := "len") (cK_len (K := K) rfl) (by rfl) T.z_len (by decide +kernel) (pa_cons (pe_fld (pv 0) rfl) pa_nil)))), ?_⟩
    refine fn_run h (fun as d hp => ?_) fun as d hp => ?_
    · obtain ⟨self, rfl, rfl⟩ := hp; simp
    · obtain ⟨self, rfl, rfl⟩ := hp
      refine ⟨_, rfl, ?_⟩
      refine ws_ctx (Γ' := [.val ((yO_Differences P w K A) self)]) rfl ?_
      refine ws_ret ?_
      refine wx_cb ?_
      refine wa_cons ?_
      refine wx_fld T.cl_Differences T.n_Differences_constraints ?_
      refine wx_var rfl ?_
      refine ⟨_, _, rfl, rfl, ?_⟩
      refine ⟨_, rfl, ?_⟩
      refine wa_nil ?_
      refine rc_lenSq (pTup K) ?_
      rw [List.length_map]
      exact ⟨_, rfl, rfl, (by first | trivial | exact ⟨rfl, trivial⟩ | exact ⟨rfl, rfl, trivial⟩)⟩
def pre_Differences___contains__ (P : Program) (w : World) (K : PySem.W.Frag) (A : Nat → Addr) : List Ar → Cl → Prop := fun as d => ∃ (self : ((List Str) × (Option (List ((Str × Str) × Int))) × (List (Str × Str × Int)))) (constraint : (Str × Str × Int)), as = [.val ((yO_Differences P w K A) self), .val ((yTr K yStr yStr yInt) constraint)] ∧ d = ⟨(Bool), f_Differences___contains__ self constraint, fun r => .val (yBl r), fun r => []⟩
theorem ok_Differences___contains__ (T : Txt K mg A D) : FnOk P w K mg base CX0 1 (A 1146) (D 1146) ["self", "constraint"] (spM A (pre_Differences___contains__ P w K A)) := by
  refine T.F_Differences___contains__.ok sc_Differences___contains__ (fun vs H Q E h => ?_) (fun cdv A' outer s H vs Q E hr h => ?_)
  · exact spM_len h fun as d hp => by obtain ⟨self, constraint, rfl, rfl⟩ := hp; rfl
  · have hu := hu_of hr
    refine ⟨_, (pss_cons (ps_asg (pv 1) (gK_tup (K := K) 3 rfl rfl (pgs_cons (pg_name (i := 2) sc_Differences___contains__.nd rfl (Or.inl rfl)) (pgs_cons (pg_name (i := 3) sc_Differences___contains__.nd rfl (Or.inl rfl)) (pgs_cons (pg_name (i := 4) sc_Differences___contains__.nd rfl (Or.inl rfl)) pgs_nil)))))
      (pss_one (ps_ret (pe_or (pe_cmpR op_isN (pe_fld (pv 0) rfl) pe_non (nomark _)) (pe_one (pe_and (pe_cmp (pc_dinN (K := K) (G := KyOf K (yPr K yStr yStr)) (VN P w) rfl rfl rfl (kyOf_ok (by decide)) lv7 hr.units (pe_tup (pa_cons (pv 2) (pa_cons (pv 3) pa_nil))) (pe_fld (pv 0) rfl)) rfl) (pe_one (pe_cmpR op_le (pe_dgetN (K := K) (G := KyOf K (yPr K yStr yStr)) (VN P w) rfl rfl rfl (kyOf_ok (by decide)) lv7 hr.units (pe_fld (pv 0) rfl) (pe_tup (pa_cons (pv 2) (pa_cons (pv 3) pa_nil))) (fun _ _ => rfl)) (pv 4) (nomark _))))))))), ?_⟩
    refine fn_run0 h (fun as d hp => ?_) fun as d hp => ?_
    · obtain ⟨self, constraint, rfl, rfl⟩ := hp; simp
    · obtain ⟨self, constraint, rfl, rfl⟩ := hp
      refine ⟨_, (show f_Differences___contains__ self constraint = Res.noerr _ from rfl), ?_⟩
      refine ws_seq ?_
      refine ws_ctx (Γ' := [.val ((yO_Differences P w K A) self), .val ((yTr K yStr yStr yInt) constraint), .any, .any, .any]) rfl ?_
      refine ws_asg ?_
      refine wx_var rfl ?_
      refine ⟨_, rfl, ?_⟩
      refine wg_tup 3 rfl ?_
      refine wgs_cons ?_
      refine wg_name (show 2 < 5 by decide) ?_
      refine wgs_cons ?_
      refine wg_name (show 3 < 5 by decide) ?_
      refine wgs_cons ?_
      refine wg_name (show 4 < 5 by decide) ?_
      refine wgs_nil ?_
      refine ws_ctx (Γ' := [.val ((yO_Differences P w K A) self), .val ((yTr K yStr yStr yInt) constraint), .val (yStr constraint.1), .val (yStr constraint.2.1), .val (yInt constraint.2.2)]) rfl ?_
      refine ws_ret ?_
      refine wx_orVM (μ := Unit) ?_
      refine wx_op ?_
      refine wx_fld T.cl_Differences T.n_Differences_sums ?_
      refine wx_var rfl ?_
      refine ⟨_, _, rfl, rfl, ?_⟩
      refine ⟨_, rfl, ?_⟩
      refine wx_non ?_
      refine ⟨_, rfl, ?_⟩
      refine rx_isN (t := (yDn K P w (yPr K yStr yStr) yInt)) (x := self.2.1) (by walk_at "nonn") ?_
      refine ⟨_, rfl, (fun s2 : Unit => [.val ((yO_Differences P w K A) self), .val ((yTr K yStr yStr yInt) constraint), .val (yStr constraint.1), .val (yStr constraint.2.1), .val (yInt constraint.2.2)]), _, (), _, rfl, by walk_at "subc", fun _ => ?_, fun r5 => ?_⟩
      · refine wx_andVM (μ := Unit) ?_
        refine wx_nin (K := K) (t := (yPr K yStr yStr)) (u := yInt) ?_
        refine wx_tup (K := K) ?_
        refine wa_cons ?_
        refine wx_var rfl ?_
        refine ⟨_, rfl, ?_⟩
        refine wa_cons ?_
        refine wx_var rfl ?_
        refine ⟨_, rfl, ?_⟩
        refine wa_nil ?_
        refine ⟨[yStr constraint.1, yStr constraint.2.1], rfl, show 2 ≤ 1000 by decide, ?_⟩
        refine ⟨(constraint.1, constraint.2.1), rfl, ?_⟩
        refine wx_unw (yDn K P w (yPr K yStr yStr) yInt) ?_
        refine wx_fld T.cl_Differences T.n_Differences_sums ?_
        refine wx_var rfl ?_
        refine ⟨_, _, rfl, rfl, ?_⟩
        refine ⟨self.2.1, _, rfl, rfl, fun r1 => ?_⟩
        refine ⟨r1, rfl, ?_⟩
        refine ⟨_, rfl, (fun s1 : Unit => [.val ((yO_Differences P w K A) self), .val ((yTr K yStr yStr yInt) constraint), .val (yStr constraint.1), .val (yStr constraint.2.1), .val (yInt constraint.2.2)]), _, (), _, rfl, by walk_at "subc", fun _ => ?_, fun r4 => ?_⟩
        · refine wx_op ?_
          refine wx_nget (K := K) (t := (yPr K yStr yStr)) (u := yInt) ?_
          refine wx_unw (yDn K P w (yPr K yStr yStr) yInt) ?_
          refine wx_fld T.cl_Differences T.n_Differences_sums ?_
          refine wx_var rfl ?_
          refine ⟨_, _, rfl, rfl, ?_⟩
          refine ⟨self.2.1, _, rfl, rfl, fun r2 => ?_⟩
          refine ⟨r2, rfl, ?_⟩
          refine wx_tup (K := K) ?_
          refine wa_cons ?_
          refine wx_var rfl ?_
          refine ⟨_, rfl, ?_⟩
          refine wa_cons ?_
          refine wx_var rfl ?_
          refine ⟨_, rfl, ?_⟩
          refine wa_nil ?_
          refine ⟨[yStr constraint.1, yStr constraint.2.1], rfl, show 2 ≤ 1000 by decide, ?_⟩
          refine ⟨(constraint.1, constraint.2.1), _, rfl, rfl, fun r3 => ?_⟩
          refine ⟨_, rfl, ?_⟩
          refine wx_var rfl ?_
          refine ⟨_, rfl, ?_⟩
          refine rx_cmp rfl ?_
          exact ⟨_, _, rfl, rfl, by walk_at "subc"⟩
        exact ⟨_, _, rfl, rfl, by walk_at "subc"⟩
      exact ⟨_, rfl, rfl, (by first | trivial | exact ⟨rfl, trivial⟩ | exact ⟨rfl, rfl, trivial⟩)⟩
def pre_Differences___getitem__ (P : Program) (w : World) (K : PySem.W.Frag) (A : Nat → Addr) : List Ar → Cl → Prop := fun as d => ∃ (self : ((List Str) × (Option (List ((Str × Str) × Int))) × (List (Str × Str × Int)))) (at' : (Str × Str)), as = [.val ((yO_Differences P w K A) self), .val ((yPr K yStr yStr) at')] ∧ d = ⟨((Option Int)), f_Differences___getitem__ self at', fun r => .val ((yOpt yInt) r), fun r => []⟩
theorem ok_Differences___getitem__ (T : Txt K mg A D) : FnOk P w K mg base (L2.CX P w) 1 (A 1147) (D 1147) ["self", "at"] (spM A (pre_Differences___getitem__ P w K A)) := by
  refine T.F_Differences___getitem__.okX sc_Differences___getitem__ (fun vs H Q E h => ?_) (fun cdv A' outer s H vs Q E hr h => ?_)
  · exact spM_len h fun as d hp => by obtain ⟨self, at', rfl, rfl⟩ := hp; rfl
  · have hu := hu_of hr
    refine ⟨_, (pss_cons (ps_asg (pv 1) (gK_tup (K := K) 2 rfl rfl (pgs_cons (pg_name (i := 2) sc_Differences___getitem__.nd rfl (Or.inl rfl)) (pgs_cons (pg_name (i := 3) sc_Differences___getitem__.nd rfl (Or.inl rfl)) pgs_nil))))
      (pss_cons (ps_if (pt_cmpR op_isN (pe_fld (pv 0) rfl) pe_non (nomark _))
        (pss_one (ps_raise rfl (takes_of rfl rfl rfl rfl) (pmk_err0 T.E0_NoSolution rfl)))
        pss_nil)
      (pss_one (ps_ret (pe_mG (aDictN_ok (κd := (VN P w))) PySem.F.plainAttrs_dict PySem.F.slot_dict_get PySem.F.type_dict_get (mt_getN (K := K) (G := KyOf K (yPr K yStr yStr)) (VN P w) rfl rfl rfl (kyOf_ok (by decide)) lv7 hr.units) (pe_fld (pv 0) rfl) (pa_cons (pe_tup (pa_cons (pv 2) (pa_cons (pv 3) pa_nil))) pa_nil)))))), ?_⟩
    refine fn_run h (fun as d hp => ?_) fun as d hp => ?_
    · obtain ⟨self, at', rfl, rfl⟩ := hp; simp
    · obtain ⟨self, at', rfl, rfl⟩ := hp
      refine ⟨_, f_Differences___getitem__.eq_def _ _, ?_⟩
      refine ws_seq ?_
      refine ws_ctx (Γ' := [.val ((yO_Differences P w K A) self), .val ((yPr K yStr yStr) at'), .any, .any]) rfl ?_
      refine ws_asg ?_
      refine wx_var rfl ?_
      refine ⟨_, rfl, ?_⟩
      refine wg_tup 2 rfl ?_
      refine wgs_cons ?_
      refine wg_name (show 2 < 4 by decide) ?_
      refine wgs_cons ?_
      refine wg_name (show 3 < 4 by decide) ?_
      refine wgs_nil ?_
      refine ws_seq ?_
      refine ws_ctx (Γ' := [.val ((yO_Differences P w K A) self), .val ((yPr K yStr yStr) at'), .val (yStr at'.1), .val (yStr at'.2)]) rfl ?_
      refine ws_if ?_
      refine wt_b ?_
      refine wx_op ?_
      refine wx_fld T.cl_Differences T.n_Differences_sums ?_
      refine wx_var rfl ?_
      refine ⟨_, _, rfl, rfl, ?_⟩
      refine ⟨_, rfl, ?_⟩
      refine wx_non ?_
      refine ⟨_, rfl, ?_⟩
      refine rx_isN (t := (yDn K P w (yPr K yStr yStr) yInt)) (x := self.2.1) (by walk_at "nonn") ?_
      refine ⟨_, rfl, ?_⟩
      refine ⟨_, _, rfl, ?_, ?_⟩
      · refine ws_ctx (Γ' := [.val ((yO_Differences P w K A) self), .val ((yPr K yStr yStr) at'), .val (yStr at'.1), .val (yStr at'.2)]) rfl ?_
        exact ws_raise0 (n := 3) (fun _ _ _ h => h) rfl
      · refine ws_next ?_
        refine ws_ctx (Γ' := [.val ((yO_Differences P w K A) self), .val ((yPr K yStr yStr) at'), .val (yStr at'.1), .val (yStr at'.2)]) rfl ?_
        refine ws_ret ?_
        refine wx_nget1 (K := K) (t := (yPr K yStr yStr)) (u := yInt) ?_
        refine wx_unw (yDn K P w (yPr K yStr yStr) yInt) ?_
        refine wx_fld T.cl_Differences T.n_Differences_sums ?_
        refine wx_var rfl ?_
        refine ⟨_, _, rfl, rfl, ?_⟩
        refine ⟨self.2.1, _, rfl, rfl, fun r1 => ?_⟩
        refine ⟨r1, rfl, ?_⟩
        refine wx_tup (K := K) ?_
        refine wa_cons ?_
        refine wx_var rfl ?_
        refine ⟨_, rfl, ?_⟩
        refine wa_cons ?_
        refine wx_var rfl ?_
        refine ⟨_, rfl, ?_⟩
        refine wa_nil ?_
        refine ⟨[yStr at'.1, yStr at'.2], rfl, show 2 ≤ 1000 by decide, ?_⟩
        refine ⟨(at'.1, at'.2), rfl, ?_⟩
        exact ⟨_, rfl, rfl, (by first | trivial | exact ⟨rfl, trivial⟩ | exact ⟨rfl, rfl, trivial⟩)⟩
def pre_Differences___add__ (P : Program) (w : World) (K : PySem.W.Frag) (A : Nat → Addr) : List Ar → Cl → Prop := fun as d => ∃ (self : ((List Str) × (Option (List ((Str × Str) × Int))) × (List (Str × Str × Int)))) (constraint : (Str × Str × Int)), as = [.val ((yO_Differences P w K A) self), .val ((yTr K yStr yStr yInt) constraint)] ∧ d = ⟨(((List Str) × (Option (List ((Str × Str) × Int))) × (List (Str × Str × Int)))), f_Differences___add__ self constraint, fun r => .val ((yO_Differences P w K A) r), fun r => []⟩
theorem ok_Differences___add__ (T : Txt K mg A D) : FnOk P w K mg base CX0 4 (A 1148) (D 1148) ["self", "constraint"] (spM A (pre_Differences___add__ P w K A)) := by
  refine T.F_Differences___add__.ok sc_Differences___add__ (fun vs H Q E h => ?_) (fun cdv A' outer s H vs Q E hr h => ?_)
  · exact spM_len h fun as d hp => by obtain ⟨self, constraint, rfl, rfl⟩ := hp; rfl
  · have hu := hu_of hr
    have G_Differences___init__ : FnOk P w K mg base CX0 2 (A 1140) (D 1140) ["self", "theory"] (spM A (pre_Differences___init__ P w K A)) := ok_Differences___init__ T
    have G_tightened : FnOk P w K mg base CX0 1 (A 5) (D 5) ["sums", "constraint"] (spM A (pre_tightened P w K A)) := ok_tightened T
    have G_listed : FnOk P w K mg base CX0 1 (A 6) (D 6) ["sums"] (spM A (pre_listed P w K A)) := ok_listed T
    refine ⟨_, (pss_cons (ps_set (i := 2) sc_Differences___add__.nd rfl (Or.inl rfl) (pe_make T.mk_Differences G_Differences___init__ (hr.mono (by decide)) rfl T.g_Differences T.b_Differences___init__ .nil pass0 (pa_cons (pe_tup (pa_cons (pe_fld (pv 0) rfl) (pa_cons (pe_tup pa_nil) pa_nil))) pa_nil)))
      (pss_cons (ps_fld (pv 2) (pe_call G_tightened (hr.mono (by decide)) rfl T.g_tightened T.F_tightened.kp T.b_tightened .nil pass0 (pa_cons (pe_fld (pv 0) rfl) (pa_cons (pv 1) pa_nil))) rfl)
      (pss_cons (ps_fld (pv 2) (pe_call G_listed (hr.mono (by decide)) rfl T.g_listed T.F_listed.kp T.b_listed .nil pass0 (pa_cons (pe_fld (pv 2) rfl) pa_nil)) rfl)
      (pss_one (ps_ret (pv 2)))))), ?_⟩
    refine fn_run0 h (fun as d hp => ?_) fun as d hp => ?_
    · obtain ⟨self, constraint, rfl, rfl⟩ := hp; simp
    · obtain ⟨self, constraint, rfl, rfl⟩ := hp
      refine ⟨_, (show f_Differences___add__ self constraint = Res.noerr _ from rfl), ?_⟩
      refine ws_seq ?_
      refine ws_ctx (Γ' := [.val ((yO_Differences P w K A) self), .val ((yTr K yStr yStr yInt) constraint), .any]) rfl ?_
      refine ws_setO (wO_Differences P w K A) ?_
      refine wx_make ?_
      refine wa_cons ?_
      refine wx_tup (K := K) ?_
      refine wa_cons ?_
      refine wx_fld T.cl_Differences T.n_Differences_places ?_
      refine wx_var rfl ?_
      refine ⟨_, _, rfl, rfl, ?_⟩
      refine ⟨_, rfl, ?_⟩
      refine wa_cons ?_
      refine wx_tup (K := K) ?_
      refine wa_nil ?_
      refine ⟨[], rfl, show 0 ≤ 1000 by decide, ?_⟩
      refine ⟨_, rfl, ?_⟩
      refine wa_nil ?_
      refine ⟨[(yTup K yStr) self.1, (yTup K (yTr K yStr yStr yInt)) ([] : (List (Str × Str × Int)))], rfl, show 2 ≤ 1000 by decide, ?_⟩
      refine ⟨_, rfl, ?_⟩
      refine wa_nil ?_
      refine ⟨[(yPr K (yTup K yStr) (yTup K (yTr K yStr yStr yInt))) (self.1, ([] : (List (Str × Str × Int))))], _, _, (fun r1 : Unit × ((List Str) × (Option (List ((Str × Str) × Int))) × (List (Str × Str × Int))) => wO_Differences P w K A r1.2), rfl, ⟨(), (self.1, ([] : (List (Str × Str × Int)))), rfl, rfl⟩, rfl, (fun _ z => noerr_ne z), (fun _ => rfl), (fun _ => ⟨_, rfl, fun _ _ _ z => z⟩), fun r1 _ => ?_⟩
      refine ⟨r1.2, _, rfl, show 2 < 3 by decide, rfl, fun grown => ?_⟩
      refine ws_seq ?_
      refine ws_ctx (Γ' := [.val ((yO_Differences P w K A) self), .val ((yTr K yStr yStr yInt) constraint), .own false ((wO_Differences P w K A) grown)]) rfl ?_
      refine ws_fsetL (yOpt (yDn K P w (yPr K yStr yStr) yInt)) T.cl_Differences T.n_Differences_sums rfl ?_
      refine wx_call ?_
      refine wa_cons ?_
      refine wx_fld T.cl_Differences T.n_Differences_sums ?_
      refine wx_var rfl ?_
      refine ⟨_, _, rfl, rfl, ?_⟩
      refine ⟨_, rfl, ?_⟩
      refine wa_cons ?_
      refine wx_var rfl ?_
      refine ⟨_, rfl, ?_⟩
      refine wa_nil ?_
      refine rc_call _ _ _ ⟨self.2.1, constraint, rfl, rfl⟩ ⟨rfl, rfl, trivial⟩ (show List.Nodup ([] : List Nat) by decide) rfl (.inr fun _ z => by first | exact noerr_ne z | exact (nomatch z)) fun r2 _ => ?_
      refine ⟨_, _, r2, _, rfl, rfl, by exact Nat.le_of_ble_eq_true rfl, rfl, fun o1 => ?_⟩
      refine ws_seq ?_
      refine ws_ctx (Γ' := [.val ((yO_Differences P w K A) self), .val ((yTr K yStr yStr yInt) constraint), .own false ((wO_Differences P w K A) (grown.1, o1, grown.2.2))]) rfl ?_
      refine ws_fsetL (yTup K (yTr K yStr yStr yInt)) T.cl_Differences T.n_Differences_constraints rfl ?_
      refine wx_call ?_
      refine wa_cons ?_
      refine wx_fldO T.cl_Differences T.n_Differences_sums rfl rfl ?_
      refine ⟨_, rfl, ?_⟩
      refine wa_nil ?_
      refine rc_call _ _ _ ⟨o1, rfl, rfl⟩ ⟨rfl, trivial⟩ (show List.Nodup ([] : List Nat) by decide) rfl (.inr fun _ z => by first | exact noerr_ne z | exact (nomatch z)) fun r3 _ => ?_
      refine ⟨_, _, r3, _, rfl, rfl, by exact Nat.le_of_ble_eq_true rfl, rfl, fun o2 => ?_⟩
      refine ws_ctx (Γ' := [.val ((yO_Differences P w K A) self), .val ((yTr K yStr yStr yInt) constraint), .own false ((wO_Differences P w K A) (grown.1, o1, o2))]) rfl ?_
      refine ws_frz 2 rfl ?_
      refine ws_ret ?_
      refine wx_var rfl ?_
      exact ⟨_, rfl, rfl, (by first | trivial | exact ⟨rfl, trivial⟩ | exact ⟨rfl, rfl, trivial⟩)⟩
def pre__law_source (K : PySem.W.Frag) (A : Nat → Addr) : List Ar → Cl → Prop := fun as d => ∃ (_law_script : (List Int)) (_law_k : Int), as = [.val ((yLst K yInt) _law_script), .val (yInt _law_k)] ∧ d = ⟨((List Int)), f__law_source _law_script _law_k, fun r => .own ((wLst K yInt) r), fun r => []⟩
theorem ok__law_source (T : Txt K mg A D) : FnOk P w K mg base CX0 1 (A 9) (D 9) ["_law_script", "_law_k"] (spM A (pre__law_source K A)) := by
  refine T.F__law_source.ok sc__law_source (fun vs H Q E h => ?_) (fun cdv A' outer s H vs Q E hr h => ?_)
  · exact spM_len h fun as d hp => by obtain ⟨_law_script, _law_k, rfl, rfl⟩ := hp; rfl
  · have hu := hu_of hr
    refine ⟨_, (pss_cons (ps_set (i := 2) sc__law_source.nd rfl (Or.inl rfl) pe_int)
      (pss_cons (ps_if (pt_cmpR op_lt (pv 1) (pe_callB (id := "len") (cK_len (K := K) rfl) (by rfl) T.z_len (by decide +kernel) (pa_cons (pv 0) pa_nil)) (nomark _))
        (pss_one (ps_set (i := 2) sc__law_source.nd rfl (Or.inl rfl) (pe_callTy (T := "int") call_int1 (by rfl) T.z_int (by decide +kernel) (pa_cons (pe_ix (xK_list (K := K) rfl) (pv 0) (pv 1) (fun _ _ => rfl)) pa_nil))))
        pss_nil)
      (pss_one (ps_ret (pe_lst (pa_cons (pv 2) (pa_cons (pe_op op_add (pe_op op_mul pe_int (pv 1)) (pe_callB (id := "len") (cK_len (K := K) rfl) (by rfl) T.z_len (by decide +kernel) (pa_cons (pv 0) pa_nil))) pa_nil))))))), ?_⟩
    refine fn_run0 h (fun as d hp => ?_) fun as d hp => ?_
    · obtain ⟨_law_script, _law_k, rfl, rfl⟩ := hp; simp
    · obtain ⟨_law_script, _law_k, rfl, rfl⟩ := hp
      refine ⟨_, (show f__law_source _law_script _law_k = Res.noerr _ from rfl), ?_⟩
      refine ws_seq ?_
      refine ws_ctx (Γ' := [.val ((yLst K yInt) _law_script), .val (yInt _law_k), .any]) rfl ?_
      refine ws_setL yInt ?_
      refine wx_int ?_
      refine ⟨(0 : Int), _, rfl, show 2 < 3 by decide, rfl, fun _law_number => ?_⟩
      refine ws_seq ?_
      refine ws_ctx (Γ' := [.val ((yLst K yInt) _law_script), .val (yInt _law_k), .val (yInt _law_number)]) rfl ?_
      refine ws_blk (fun s1 : (Int) => [.val ((yLst K yInt) _law_script), .val (yInt _law_k), .val (yInt s1)]) rfl ?_ ?_
      · refine ws_if ?_
        refine wt_b ?_
        refine wx_op ?_
        refine wx_var rfl ?_
        refine ⟨_, rfl, ?_⟩
        refine wx_cb ?_
        refine wa_cons ?_
        refine wx_var rfl ?_
        refine ⟨_, rfl, ?_⟩
        refine wa_nil ?_
        refine rc_lenSq (pLst K) ?_
        rw [List.length_map]
        refine ⟨_, rfl, ?_⟩
        refine rx_cmp rfl ?_
        refine ⟨_, rfl, ?_⟩
        refine ⟨_, _, rfl, ?_, ?_⟩
        · refine ws_ctx (Γ' := [.val ((yLst K yInt) _law_script), .val (yInt _law_k), .val (yInt _law_number)]) rfl ?_
          refine ws_setL yInt ?_
          refine wx_cb ?_
          refine wa_cons ?_
          refine wx_op ?_
          refine wx_var rfl ?_
          refine ⟨_, rfl, ?_⟩
          refine wx_var rfl ?_
          refine ⟨_, rfl, ?_⟩
          refine rx_ixLp (t := yInt) (xs := _law_script) rfl fun r1 => ?_
          refine ⟨_, rfl, ?_⟩
          refine wa_nil ?_
          refine rc_int1 ?_
          refine ⟨r1, _, rfl, show 2 < 3 by decide, rfl, fun _law_number => ?_⟩
          exact ⟨_, rfl, by walk_at "subc"⟩
        · refine ws_next ?_
          exact ⟨_, rfl, by walk_at "subc"⟩
      intro s1
      refine ws_ctx (Γ' := [.val ((yLst K yInt) _law_script), .val (yInt _law_k), .val (yInt s1)]) rfl ?_
      refine ws_ret ?_
      refine wx_lst (K := K) ?_
      refine wa_cons ?_
      refine wx_var rfl ?_
      refine ⟨_, rfl, ?_⟩
      refine wa_cons ?_
      refine wx_op ?_
      refine wx_op ?_
      refine wx_int ?_
      refine ⟨_, rfl, ?_⟩
      refine wx_var rfl ?_
      refine ⟨_, rfl, ?_⟩
      refine rx_it (f := fun i j => i * j) (.inl (by decide)) rfl ?_
      refine ⟨_, rfl, ?_⟩
      refine wx_cb ?_
      refine wa_cons ?_
      refine wx_var rfl ?_
      refine ⟨_, rfl, ?_⟩
      refine wa_nil ?_
      refine rc_lenSq (pLst K) ?_
      rw [List.length_map]
      refine ⟨_, rfl, ?_⟩
      refine rx_ari rfl ?_
      refine ⟨_, rfl, ?_⟩
      refine wa_nil ?_
      refine ⟨[yInt s1, yInt (((100 : Int) * _law_k) + (_law_script.length : Int))], rfl, show 2 ≤ 1000 by decide, ?_⟩
      exact ⟨_, rfl, rfl, (by first | trivial | exact ⟨rfl, trivial⟩ | exact ⟨rfl, rfl, trivial⟩)⟩
def pre__law_draw (K : PySem.W.Frag) (A : Nat → Addr) : List Ar → Cl → Prop := fun as d => ∃ (_law_source_here : (List Int)) (_law_limit : Int), as = [.io ((wLst K yInt) _law_source_here), .val (yInt _law_limit)] ∧ d = ⟨(Int × (List Int)), f__law_draw _law_source_here _law_limit, fun r => .val (yInt r.1), fun r => [(wLst K yInt) r.2]⟩
theorem ok__law_draw (T : Txt K mg A D) : FnOk P w K mg base CX0 1 (A 10) (D 10) ["_law_source_here", "_law_limit"] (spM A (pre__law_draw K A)) := by
  refine T.F__law_draw.ok sc__law_draw (fun vs H Q E h => ?_) (fun cdv A' outer s H vs Q E hr h => ?_)
  · exact spM_len h fun as d hp => by obtain ⟨_law_source_here, _law_limit, rfl, rfl⟩ := hp; rfl
  · have hu := hu_of hr
    refine ⟨_, (pss_cons (ps_set (i := 2) sc__law_draw.nd rfl (Or.inl rfl) (pe_ix (xK_list (K := K) rfl) (pv 0) pe_int (fun _ _ => rfl)))
      (pss_cons (ps_if (pt_cmpR op_ge (pv 2) (pe_op op_pow pe_int pe_int) (nomark _))
        (pss_cons (ps_asg (pe_op op_fdiv (pv 2) (pv 1)) (pg_sub (pv 0) pe_int set_list))
        (pss_one (ps_ret (pe_op op_mod (pe_callTy (T := "int") call_int1 (by rfl) T.z_int (by decide +kernel) (pa_cons (pv 2) pa_nil)) (pv 1)))))
        pss_nil)
      (pss_cons (ps_asg (pe_op op_add (pe_ix (xK_list (K := K) rfl) (pv 0) pe_int (fun _ _ => rfl)) pe_int) (pg_sub (pv 0) pe_int set_list))
      (pss_cons (ps_set (i := 3) sc__law_draw.nd rfl (Or.inl rfl) (pe_op op_mod (pe_callTy (T := "int") call_int1 (by rfl) T.z_int (by decide +kernel) (pa_cons (pe_op op_add (pe_op op_add (pe_op op_mul (pv 2) pe_int) (pe_op op_mul (pe_ix (xK_list (K := K) rfl) (pv 0) pe_int (fun _ _ => rfl)) pe_int)) pe_int) pa_nil)) pe_int))
      (pss_cons (ps_set (i := 3) sc__law_draw.nd rfl (Or.inl rfl) (pe_op op_mod (pe_callTy (T := "int") call_int1 (by rfl) T.z_int (by decide +kernel) (pa_cons (pe_op op_add (pe_op op_add (pe_op op_mul (pv 3) (pv 3)) (pv 2)) (pe_op op_mul (pe_ix (xK_list (K := K) rfl) (pv 0) pe_int (fun _ _ => rfl)) pe_int)) pa_nil)) pe_int))
      (pss_cons (ps_set (i := 3) sc__law_draw.nd rfl (Or.inl rfl) (pe_op op_mod (pe_callTy (T := "int") call_int1 (by rfl) T.z_int (by decide +kernel) (pa_cons (pe_op op_add (pe_op op_add (pe_op op_mul (pv 3) (pv 3)) (pe_op op_fdiv (pv 3) pe_int)) pe_int) pa_nil)) pe_int))
      (pss_one (ps_ret (pe_op op_mod (pe_op op_fdiv (pe_callTy (T := "int") call_int1 (by rfl) T.z_int (by decide +kernel) (pa_cons (pv 3) pa_nil)) pe_int) (pv 1)))))))))), ?_⟩
    refine fn_run0 h (fun as d hp => ?_) fun as d hp => ?_
    · obtain ⟨_law_source_here, _law_limit, rfl, rfl⟩ := hp; simp
    · obtain ⟨_law_source_here, _law_limit, rfl, rfl⟩ := hp
      refine ⟨_, (show f__law_draw _law_source_here _law_limit = Res.noerr _ from rfl), ?_⟩
      refine ws_seq ?_
      refine ws_ctx (Γ' := [.own true ((wLst K yInt) _law_source_here), .val (yInt _law_limit), .any, .any]) rfl ?_
      refine ws_setL yInt ?_
      refine wx_peek ?_
      refine wx_op ?_
      refine wx_var rfl ?_
      refine ⟨_, rfl, ?_⟩
      refine wx_int ?_
      refine ⟨_, rfl, ?_⟩
      refine rx_ixLp (t := yInt) (xs := _law_source_here) rfl fun r1 => ?_
      refine ⟨_, rfl, imm_int, ?_⟩
      refine ⟨r1, _, rfl, show 2 < 4 by decide, rfl, fun _law_number => ?_⟩
      refine ws_seq ?_
      refine ws_ctx (Γ' := [.own true ((wLst K yInt) _law_source_here), .val (yInt _law_limit), .val (yInt _law_number), .any]) rfl ?_
      refine ws_if ?_
      refine wt_b ?_
      refine wx_op ?_
      refine wx_var rfl ?_
      refine ⟨_, rfl, ?_⟩
      refine wx_op ?_
      refine wx_int ?_
      refine ⟨_, rfl, ?_⟩
      refine wx_int ?_
      refine ⟨_, rfl, ?_⟩
      refine rx_it (f := fun i j => i ^ j.toNat) ⟨by decide, by decide, by decide⟩ rfl ?_
      refine ⟨_, rfl, ?_⟩
      refine rx_cmp rfl ?_
      refine ⟨_, rfl, ?_⟩
      refine ⟨_, _, rfl, ?_, ?_⟩
      · refine ws_seq ?_
        refine ws_ctx (Γ' := [.own true ((wLst K yInt) _law_source_here), .val (yInt _law_limit), .val (yInt _law_number), .any]) rfl ?_
        refine ws_lset (K := K) yInt ?_
        refine wx_op ?_
        refine wx_var rfl ?_
        refine ⟨_, rfl, ?_⟩
        refine wx_var rfl ?_
        refine ⟨_, rfl, ?_⟩
        refine rx_div rfl rfl fun r2 => ?_
        refine ⟨r2, rfl, ⟨_, _, rfl⟩, ?_⟩
        refine wx_int ?_
        refine ⟨_, _law_source_here, (0 : Int), _, rfl, rfl, rfl, fun z1 => ?_⟩
        refine ws_ctx (Γ' := [.own true ((wLst K yInt) z1), .val (yInt _law_limit), .val (yInt _law_number), .any]) rfl ?_
        refine ws_ret ?_
        refine wx_op ?_
        refine wx_cb ?_
        refine wa_cons ?_
        refine wx_var rfl ?_
        refine ⟨_, rfl, ?_⟩
        refine wa_nil ?_
        refine rc_int1 ?_
        refine ⟨_, rfl, ?_⟩
        refine wx_var rfl ?_
        refine ⟨_, rfl, ?_⟩
        refine rx_mod rfl rfl fun r3 => ?_
        exact ⟨_, rfl, rfl, (by first | trivial | exact ⟨rfl, trivial⟩ | exact ⟨rfl, rfl, trivial⟩)⟩
      · refine ws_next ?_
        refine ws_seq ?_
        refine ws_ctx (Γ' := [.own true ((wLst K yInt) _law_source_here), .val (yInt _law_limit), .val (yInt _law_number), .any]) rfl ?_
        refine ws_lset (K := K) yInt ?_
        refine wx_op ?_
        refine wx_peek ?_
        refine wx_op ?_
        refine wx_var rfl ?_
        refine ⟨_, rfl, ?_⟩
        refine wx_int ?_
        refine ⟨_, rfl, ?_⟩
        refine rx_ixLp (t := yInt) (xs := _law_source_here) rfl fun r4 => ?_
        refine ⟨_, rfl, imm_int, ?_⟩
        refine ⟨_, rfl, ?_⟩
        refine wx_int ?_
        refine ⟨_, rfl, ?_⟩
        refine rx_ari rfl ?_
        refine ⟨(r4 + (1 : Int)), rfl, ⟨_, _, rfl⟩, ?_⟩
        refine wx_int ?_
        refine ⟨_, _law_source_here, (1 : Int), _, rfl, rfl, rfl, fun z2 => ?_⟩
        refine ws_seq ?_
        refine ws_ctx (Γ' := [.own true ((wLst K yInt) z2), .val (yInt _law_limit), .val (yInt _law_number), .any]) rfl ?_
        refine ws_setL yInt ?_
        refine wx_op ?_
        refine wx_cb ?_
        refine wa_cons ?_
        refine wx_op ?_
        refine wx_op ?_
        refine wx_op ?_
        refine wx_var rfl ?_
        refine ⟨_, rfl, ?_⟩
        refine wx_int ?_
        refine ⟨_, rfl, ?_⟩
        refine rx_it (f := fun i j => i * j) (.inr (by decide)) rfl ?_
        refine ⟨_, rfl, ?_⟩
        refine wx_op ?_
        refine wx_peek ?_
        refine wx_op ?_
        refine wx_var rfl ?_
        refine ⟨_, rfl, ?_⟩
        refine wx_int ?_
        refine ⟨_, rfl, ?_⟩
        refine rx_ixLp (t := yInt) (xs := z2) rfl fun r5 => ?_
        refine ⟨_, rfl, imm_int, ?_⟩
        refine ⟨_, rfl, ?_⟩
        refine wx_int ?_
        refine ⟨_, rfl, ?_⟩
        refine rx_it (f := fun i j => i * j) (.inr (by decide)) rfl ?_
        refine ⟨_, rfl, ?_⟩
        refine rx_ari rfl ?_
        refine ⟨_, rfl, ?_⟩
        refine wx_int ?_
        refine ⟨_, rfl, ?_⟩
        refine rx_ari rfl ?_
        refine ⟨_, rfl, ?_⟩
        refine wa_nil ?_
        refine rc_int1 ?_
        refine ⟨_, rfl, ?_⟩
        refine wx_int ?_
        refine ⟨_, rfl, ?_⟩
        refine rx_it (f := fun i j => i % j) (by decide) rfl ?_
        refine ⟨((((_law_number * (48271 : Int)) + (r5 * (69621 : Int))) + (7 : Int)) % (2147483647 : Int)), _, rfl, show 3 < 4 by decide, rfl, fun _law_mixed => ?_⟩
        refine ws_seq ?_
        refine ws_ctx (Γ' := [.own true ((wLst K yInt) z2), .val (yInt _law_limit), .val (yInt _law_number), .val (yInt _law_mixed)]) rfl ?_
        refine ws_setL yInt ?_
        refine wx_op ?_
        refine wx_cb ?_
        refine wa_cons ?_
        refine wx_op ?_
        refine wx_op ?_
        refine wx_op ?_
        refine wx_var rfl ?_
        refine ⟨_, rfl, ?_⟩
        refine wx_var rfl ?_
        refine ⟨_, rfl, ?_⟩
        refine rx_mul rfl rfl fun r6 => ?_
        refine ⟨_, rfl, ?_⟩
        refine wx_var rfl ?_
        refine ⟨_, rfl, ?_⟩
        refine rx_ari rfl ?_
        refine ⟨_, rfl, ?_⟩
        refine wx_op ?_
        refine wx_peek ?_
        refine wx_op ?_
        refine wx_var rfl ?_
        refine ⟨_, rfl, ?_⟩
        refine wx_int ?_
        refine ⟨_, rfl, ?_⟩
        refine rx_ixLp (t := yInt) (xs := z2) rfl fun r7 => ?_
        refine ⟨_, rfl, imm_int, ?_⟩
        refine ⟨_, rfl, ?_⟩
        refine wx_int ?_
        refine ⟨_, rfl, ?_⟩
        refine rx_it (f := fun i j => i * j) (.inr (by decide)) rfl ?_
        refine ⟨_, rfl, ?_⟩
        refine rx_ari rfl ?_
        refine ⟨_, rfl, ?_⟩
        refine wa_nil ?_
        refine rc_int1 ?_
        refine ⟨_, rfl, ?_⟩
        refine wx_int ?_
        refine ⟨_, rfl, ?_⟩
        refine rx_it (f := fun i j => i % j) (by decide) rfl ?_
        refine ⟨(((r6 + _law_number) + (r7 * (40692 : Int))) % (2147483629 : Int)), _, rfl, show 3 < 4 by decide, rfl, fun _law_mixed => ?_⟩
        refine ws_seq ?_
        refine ws_ctx (Γ' := [.own true ((wLst K yInt) z2), .val (yInt _law_limit), .val (yInt _law_number), .val (yInt _law_mixed)]) rfl ?_
        refine ws_setL yInt ?_
        refine wx_op ?_
        refine wx_cb ?_
        refine wa_cons ?_
        refine wx_op ?_
        refine wx_op ?_
        refine wx_op ?_
        refine wx_var rfl ?_
        refine ⟨_, rfl, ?_⟩
        refine wx_var rfl ?_
        refine ⟨_, rfl, ?_⟩
        refine rx_mul rfl rfl fun r8 => ?_
        refine ⟨_, rfl, ?_⟩
        refine wx_op ?_
        refine wx_var rfl ?_
        refine ⟨_, rfl, ?_⟩
        refine wx_int ?_
        refine ⟨_, rfl, ?_⟩
        refine rx_it (f := fun i j => i / j) ⟨by decide, by decide⟩ rfl ?_
        refine ⟨_, rfl, ?_⟩
        refine rx_ari rfl ?_
        refine ⟨_, rfl, ?_⟩
        refine wx_int ?_
        refine ⟨_, rfl, ?_⟩
        refine rx_ari rfl ?_
        refine ⟨_, rfl, ?_⟩
        refine wa_nil ?_
        refine rc_int1 ?_
        refine ⟨_, rfl, ?_⟩
        refine wx_int ?_
        refine ⟨_, rfl, ?_⟩
        refine rx_it (f := fun i j => i % j) (by decide) rfl ?_
        refine ⟨(((r8 + (_law_mixed / (4096 : Int))) + (12345 : Int)) % (2147483587 : Int)), _, rfl, show 3 < 4 by decide, rfl, fun _law_mixed => ?_⟩
        refine ws_ctx (Γ' := [.own true ((wLst K yInt) z2), .val (yInt _law_limit), .val (yInt _law_number), .val (yInt _law_mixed)]) rfl ?_
        refine ws_ret ?_
        refine wx_op ?_
        refine wx_op ?_
        refine wx_cb ?_
        refine wa_cons ?_
        refine wx_var rfl ?_
        refine ⟨_, rfl, ?_⟩
        refine wa_nil ?_
        refine rc_int1 ?_
        refine ⟨_, rfl, ?_⟩
        refine wx_int ?_
        refine ⟨_, rfl, ?_⟩
        refine rx_it (f := fun i j => i / j) ⟨by decide, by decide⟩ rfl ?_
        refine ⟨_, rfl, ?_⟩
        refine wx_var rfl ?_
        refine ⟨_, rfl, ?_⟩
        refine rx_mod rfl rfl fun r9 => ?_
        exact ⟨_, rfl, rfl, (by first | trivial | exact ⟨rfl, trivial⟩ | exact ⟨rfl, rfl, trivial⟩)⟩
def pre__law_some (K : PySem.W.Frag) (A : Nat → Addr) : List Ar → Cl → Prop := fun as d => ∃ (_law_source_here : (List Int)) (_law_names : (List Str)) (_law_most : Int), as = [.io ((wLst K yInt) _law_source_here), .val ((ySeqq K yStr) _law_names), .val (yInt _law_most)] ∧ d = ⟨((List Str) × (List Int)), f__law_some _law_source_here _law_names _law_most, fun r => .own ((wLst K yStr) r.1), fun r => [(wLst K yInt) r.2]⟩
theorem ok__law_some (T : Txt K mg A D) : FnOk P w K mg base CX0 2 (A 11) (D 11) ["_law_source_here", "_law_names", "_law_most"] (spM A (pre__law_some K A)) := by
  refine T.F__law_some.ok sc__law_some (fun vs H Q E h => ?_) (fun cdv A' outer s H vs Q E hr h => ?_)
  · exact spM_len h fun as d hp => by obtain ⟨_law_source_here, _law_names, _law_most, rfl, rfl⟩ := hp; rfl
  · have hu := hu_of hr
    have G__law_draw : FnOk P w K mg base CX0 1 (A 10) (D 10) ["_law_source_here", "_law_limit"] (spM A (pre__law_draw K A)) := ok__law_draw T
    refine ⟨_, (pss_cons (ps_set (i := 3) sc__law_some.nd rfl (Or.inl rfl) (pe_lst pa_nil))
      (pss_cons (ps_for PassesOwn.never rfl (pi_or (iK_list (K := K) rfl (pv 1)) (iK_tup (K := K) rfl (pv 1))) (pg_name (i := 4) sc__law_some.nd rfl (Or.inl rfl))
        (pss_one (ps_if (PW.pt (pw_and (pt_cmpR op_lt (pe_callB (id := "len") (cK_len (K := K) rfl) (by rfl) T.z_len (by decide +kernel) (pa_cons (pv 3) pa_nil)) (pv 2) (nomark _)) (pw_and1 (pt_cmpR op_gt (pe_call G__law_draw (hr.mono (by decide)) rfl T.g__law_draw T.F__law_draw.kp T.b__law_draw .nil pass0 (pa_cons (pv 0) (pa_cons pe_int pa_nil))) pe_int (nomark _)))))
          (pss_one (ps_expr (pe_bm PySem.F.plainAttrs_list PySem.F.slot_list_append PySem.F.type_list_append mt_append (pv 3) (pa_cons (pv 4) pa_nil))))
          pss_nil)))
      (pss_one (ps_ret (pv 3))))), ?_⟩
    refine fn_run0 h (fun as d hp => ?_) fun as d hp => ?_
    · obtain ⟨_law_source_here, _law_names, _law_most, rfl, rfl⟩ := hp; simp
    · obtain ⟨_law_source_here, _law_names, _law_most, rfl, rfl⟩ := hp
      refine ⟨_, (show f__law_some _law_source_here _law_names _law_most = Res.noerr _ from rfl), ?_⟩
      refine ws_seq ?_
      refine ws_ctx (Γ' := [.own true ((wLst K yInt) _law_source_here), .val ((ySeqq K yStr) _law_names), .val (yInt _law_most), .any, .any]) rfl ?_
      refine ws_setO (wLst K yStr) ?_
      refine wx_lst (K := K) ?_
      refine wa_nil ?_
      refine ⟨[], rfl, show 0 ≤ 1000 by decide, ?_⟩
      refine ⟨([] : List Str), _, rfl, show 3 < 5 by decide, rfl, fun _law_found => ?_⟩
      refine ws_seq ?_
      refine ws_ctx (Γ' := [.own true ((wLst K yInt) _law_source_here), .val ((ySeqq K yStr) _law_names), .val (yInt _law_most), .own false ((wLst K yStr) _law_found), .any]) rfl ?_
      refine ws_for (μ := ((List Int) × (List Str))) yStr ?_
      refine wi_seq rfl ?_
      refine ⟨_, (fun s1 : ((List Int) × (List Str)) => [.own true ((wLst K yInt) s1.1), .val ((ySeqq K yStr) _law_names), .val (yInt _law_most), .own false ((wLst K yStr) s1.2), .any]), _law_names, _, _, rfl, rfl, by walk_at "subc", fun s1 q1 => ?_, fun s1 => ?_⟩
      · refine wg_name (show 4 < 5 by decide) ?_
        refine ws_ctx (Γ' := [.own true ((wLst K yInt) s1.1), .val ((ySeqq K yStr) _law_names), .val (yInt _law_most), .own false ((wLst K yStr) s1.2), .val (yStr q1)]) rfl ?_
        refine ws_if ?_
        refine wt_andM (μ := ((List Int))) ?_
        refine wt_b ?_
        refine wx_op ?_
        refine wx_peek ?_
        refine wx_cb ?_
        refine wa_cons ?_
        refine wx_var rfl ?_
        refine ⟨_, rfl, ?_⟩
        refine wa_nil ?_
        refine rc_lenSq (pLst K) ?_
        rw [List.length_map]
        refine ⟨_, rfl, imm_int, ?_⟩
        refine ⟨_, rfl, ?_⟩
        refine wx_var rfl ?_
        refine ⟨_, rfl, ?_⟩
        refine rx_cmp rfl ?_
        refine ⟨_, rfl, ?_⟩
        refine ⟨(fun s2 : ((List Int)) => [.own true ((wLst K yInt) s2), .val ((ySeqq K yStr) _law_names), .val (yInt _law_most), .own false ((wLst K yStr) s1.2), .val (yStr q1)]), _, (s1.1), _, rfl, by walk_at "subc", fun _ => ?_, fun r2 => ?_⟩
        · refine wt_b ?_
          refine wx_op ?_
          refine wx_call ?_
          refine wa_io rfl ?_
          refine wa_cons ?_
          refine wx_int ?_
          refine ⟨_, rfl, ?_⟩
          refine wa_nil ?_
          refine rc_call _ _ _ ⟨s1.1, (3 : Int), rfl, rfl⟩ ⟨⟨_, rfl⟩, rfl, trivial⟩ (show List.Nodup ([0] : List Nat) by decide) rfl (.inr fun _ z => by first | exact noerr_ne z | exact (nomatch z)) fun r1 _ => ?_
          refine ⟨_, rfl, ?_⟩
          refine wx_int ?_
          refine ⟨_, rfl, ?_⟩
          refine rx_cmp rfl ?_
          refine ⟨_, rfl, ?_⟩
          exact ⟨_, rfl, by walk_at "subc"⟩
        refine ⟨_, _, rfl, ?_, ?_⟩
        · refine ws_ctx (Γ' := [.own true ((wLst K yInt) r2.2), .val ((ySeqq K yStr) _law_names), .val (yInt _law_most), .own false ((wLst K yStr) s1.2), .val (yStr q1)]) rfl ?_
          refine ws_append yStr (xs0 := s1.2) rfl ?_
          refine wx_var rfl ?_
          refine ⟨_, s1.2, q1, _, rfl, rfl, rfl, fun z1 => ?_⟩
          exact ⟨_, rfl, by walk_at "subc"⟩
        · refine ws_next ?_
          exact ⟨_, rfl, by walk_at "subc"⟩
      refine ws_ctx (Γ' := [.own true ((wLst K yInt) s1.1), .val ((ySeqq K yStr) _law_names), .val (yInt _law_most), .own false ((wLst K yStr) s1.2), .any]) rfl ?_
      refine ws_ret ?_
      refine wx_take rfl ?_
      exact ⟨_, rfl, rfl, (by first | trivial | exact ⟨rfl, trivial⟩ | exact ⟨rfl, rfl, trivial⟩)⟩
def pre__law_bound (K : PySem.W.Frag) (A : Nat → Addr) : List Ar → Cl → Prop := fun as d => ∃ (_law_source_here : (List Int)), as = [.io ((wLst K yInt) _law_source_here)] ∧ d = ⟨(Int × (List Int)), f__law_bound _law_source_here, fun r => .val (yInt r.1), fun r => [(wLst K yInt) r.2]⟩
theorem ok__law_bound (T : Txt K mg A D) : FnOk P w K mg base CX0 2 (A 12) (D 12) ["_law_source_here"] (spM A (pre__law_bound K A)) := by
  refine T.F__law_bound.ok sc__law_bound (fun vs H Q E h => ?_) (fun cdv A' outer s H vs Q E hr h => ?_)
  · exact spM_len h fun as d hp => by obtain ⟨_law_source_here, rfl, rfl⟩ := hp; rfl
  · have hu := hu_of hr
    have G__law_draw : FnOk P w K mg base CX0 1 (A 10) (D 10) ["_law_source_here", "_law_limit"] (spM A (pre__law_draw K A)) := ok__law_draw T
    refine ⟨_, (pss_cons (ps_if (pt_cmpR op_eq (pe_call G__law_draw (hr.mono (by decide)) rfl T.g__law_draw T.F__law_draw.kp T.b__law_draw .nil pass0 (pa_cons (pv 0) (pa_cons pe_int pa_nil))) pe_int (nomark _))
        (pss_one (ps_ret (pe_op op_sub (pe_call G__law_draw (hr.mono (by decide)) rfl T.g__law_draw T.F__law_draw.kp T.b__law_draw .nil pass0 (pa_cons (pv 0) (pa_cons pe_int pa_nil))) pe_int)))
        pss_nil)
      (pss_one (ps_ret (pe_op op_sub (pe_call G__law_draw (hr.mono (by decide)) rfl T.g__law_draw T.F__law_draw.kp T.b__law_draw .nil pass0 (pa_cons (pv 0) (pa_cons pe_int pa_nil))) pe_int)))), ?_⟩
    refine fn_run0 h (fun as d hp => ?_) fun as d hp => ?_
    · obtain ⟨_law_source_here, rfl, rfl⟩ := hp; simp
    · obtain ⟨_law_source_here, rfl, rfl⟩ := hp
      refine ⟨_, (show f__law_bound _law_source_here = Res.noerr _ from rfl), ?_⟩
      refine ws_seq ?_
      refine ws_ctx (Γ' := [.own true ((wLst K yInt) _law_source_here)]) rfl ?_
      refine ws_if ?_
      refine wt_b ?_
      refine wx_op ?_
      refine wx_call ?_
      refine wa_io rfl ?_
      refine wa_cons ?_
      refine wx_int ?_
      refine ⟨_, rfl, ?_⟩
      refine wa_nil ?_
      refine rc_call _ _ _ ⟨_law_source_here, (4 : Int), rfl, rfl⟩ ⟨⟨_, rfl⟩, rfl, trivial⟩ (show List.Nodup ([0] : List Nat) by decide) rfl (.inr fun _ z => by first | exact noerr_ne z | exact (nomatch z)) fun r1 _ => ?_
      refine ⟨_, rfl, ?_⟩
      refine wx_int ?_
      refine ⟨_, rfl, ?_⟩
      refine rx_eq ?_
      refine ⟨_, rfl, ?_⟩
      refine ⟨_, _, rfl, ?_, ?_⟩
      · refine ws_ctx (Γ' := [.own true ((wLst K yInt) r1.2)]) rfl ?_
        refine ws_ret ?_
        refine wx_op ?_
        refine wx_call ?_
        refine wa_io rfl ?_
        refine wa_cons ?_
        refine wx_int ?_
        refine ⟨_, rfl, ?_⟩
        refine wa_nil ?_
        refine rc_call _ _ _ ⟨r1.2, (39 : Int), rfl, rfl⟩ ⟨⟨_, rfl⟩, rfl, trivial⟩ (show List.Nodup ([0] : List Nat) by decide) rfl (.inr fun _ z => by first | exact noerr_ne z | exact (nomatch z)) fun r2 _ => ?_
        refine ⟨_, rfl, ?_⟩
        refine wx_int ?_
        refine ⟨_, rfl, ?_⟩
        refine rx_ari rfl ?_
        exact ⟨_, rfl, rfl, (by first | trivial | exact ⟨rfl, trivial⟩ | exact ⟨rfl, rfl, trivial⟩)⟩
      · refine ws_next ?_
        refine ws_ctx (Γ' := [.own true ((wLst K yInt) r1.2)]) rfl ?_
        refine ws_ret ?_
        refine wx_op ?_
        refine wx_call ?_
        refine wa_io rfl ?_
        refine wa_cons ?_
        refine wx_int ?_
        refine ⟨_, rfl, ?_⟩
        refine wa_nil ?_
        refine rc_call _ _ _ ⟨r1.2, (9 : Int), rfl, rfl⟩ ⟨⟨_, rfl⟩, rfl, trivial⟩ (show List.Nodup ([0] : List Nat) by decide) rfl (.inr fun _ z => by first | exact noerr_ne z | exact (nomatch z)) fun r3 _ => ?_
        refine ⟨_, rfl, ?_⟩
        refine wx_int ?_
        refine ⟨_, rfl, ?_⟩
        refine rx_ari rfl ?_
        exact ⟨_, rfl, rfl, (by first | trivial | exact ⟨rfl, trivial⟩ | exact ⟨rfl, rfl, trivial⟩)⟩
def pre__law_constraint (K : PySem.W.Frag) (A : Nat → Addr) : List Ar → Cl → Prop := fun as d => ∃ (_law_source_here : (List Int)) (_law_names : (List Str)), as = [.io ((wLst K yInt) _law_source_here), .val ((ySeqq K yStr) _law_names)] ∧ d = ⟨((Str × Str × Int) × (List Int)), f__law_constraint _law_source_here _law_names, fun r => .val ((yTr K yStr yStr yInt) r.1), fun r => [(wLst K yInt) r.2]⟩
theorem ok__law_constraint (T : Txt K mg A D) : FnOk P w K mg base CX0 3 (A 13) (D 13) ["_law_source_here", "_law_names"] (spM A (pre__law_constraint K A)) := by
  refine T.F__law_constraint.ok sc__law_constraint (fun vs H Q E h => ?_) (fun cdv A' outer s H vs Q E hr h => ?_)
  · exact spM_len h fun as d hp => by obtain ⟨_law_source_here, _law_names, rfl, rfl⟩ := hp; rfl
  · have hu := hu_of hr
    have G__law_draw : FnOk P w K mg base CX0 1 (A 10) (D 10) ["_law_source_here", "_law_limit"] (spM A (pre__law_draw K A)) := ok__law_draw T
    have G__law_bound : FnOk P w K mg base CX0 2 (A 12) (D 12) ["_law_source_here"] (spM A (pre__law_bound K A)) := ok__law_bound T
    refine ⟨_, (pss_cons (ps_set (i := 2) sc__law_constraint.nd rfl (Or.inl rfl) (pe_op (op_catS (K := K) rfl) (pe_lst (pa_cons pe_str pa_nil)) (pe_callTy (T := "list") (cK_list (K := K) rfl) (by rfl) T.z_list (by decide +kernel) (pa_cons (pv 1) pa_nil))))
      (pss_cons (ps_set (i := 3) sc__law_constraint.nd rfl (Or.inl rfl) (pe_ix (xK_list (K := K) rfl) (pv 2) (pe_call G__law_draw (hr.mono (by decide)) rfl T.g__law_draw T.F__law_draw.kp T.b__law_draw .nil pass0 (pa_cons (pv 0) (pa_cons (pe_callB (id := "len") (cK_len (K := K) rfl) (by rfl) T.z_len (by decide +kernel) (pa_cons (pv 2) pa_nil)) pa_nil))) (fun _ _ => rfl)))
      (pss_cons (ps_set (i := 4) sc__law_constraint.nd rfl (Or.inl rfl) (pe_ix (xK_list (K := K) rfl) (pv 2) (pe_call G__law_draw (hr.mono (by decide)) rfl T.g__law_draw T.F__law_draw.kp T.b__law_draw .nil pass0 (pa_cons (pv 0) (pa_cons (pe_callB (id := "len") (cK_len (K := K) rfl) (by rfl) T.z_len (by decide +kernel) (pa_cons (pv 2) pa_nil)) pa_nil))) (fun _ _ => rfl)))
      (pss_cons (ps_if (PW.pt (pw_and (pt_cmpR op_eq (pv 3) (pv 4) (nomark _)) (pw_and1 (pt_cmpR op_ne (pv 3) pe_str (nomark _)))))
        (pss_one (ps_set (i := 4) sc__law_constraint.nd rfl (Or.inl rfl) pe_str))
        pss_nil)
      (pss_one (ps_ret (pe_tup (pa_cons (pv 3) (pa_cons (pv 4) (pa_cons (pe_call G__law_bound (hr.mono (by decide)) rfl T.g__law_bound T.F__law_bound.kp T.b__law_bound .nil pass0 (pa_cons (pv 0) pa_nil)) pa_nil)))))))))), ?_⟩
    refine fn_run0 h (fun as d hp => ?_) fun as d hp => ?_
    · obtain ⟨_law_source_here, _law_names, rfl, rfl⟩ := hp; simp
    · obtain ⟨_law_source_here, _law_names, rfl, rfl⟩ := hp
      refine ⟨_, (show f__law_constraint _law_source_here _law_names = Res.noerr _ from rfl), ?_⟩
      refine ws_seq ?_
      refine ws_ctx (Γ' := [.own true ((wLst K yInt) _law_source_here), .val ((ySeqq K yStr) _law_names), .any, .any, .any]) rfl ?_
      refine ws_setL (yLst K yStr) ?_
      refine wx_fz ?_
      refine wx_op ?_
      refine wx_fz ?_
      refine wx_lst (K := K) ?_
      refine wa_cons ?_
      refine wx_str ?_
      refine ⟨_, rfl, ?_⟩
      refine wa_nil ?_
      refine ⟨[yStr ("" : Str)], rfl, show 1 ≤ 1000 by decide, ?_⟩
      refine ⟨_, rfl, ?_⟩
      refine ⟨_, rfl, ?_⟩
      refine wx_fz ?_
      refine wx_cb ?_
      refine wa_cons ?_
      refine wx_var rfl ?_
      refine ⟨_, rfl, ?_⟩
      refine wa_nil ?_
      refine rc_list (pSeq K) ?_
      refine ⟨_, rfl, ?_⟩
      refine ⟨_, rfl, ?_⟩
      refine rx_catL (t := yStr) (xs := ([("" : Str)] : List Str)) (ys := _law_names) rfl ?_
      refine ⟨_, rfl, ?_⟩
      refine ⟨(([("" : Str)] : List Str) ++ _law_names), _, rfl, show 2 < 5 by decide, rfl, fun _law_ends => ?_⟩
      refine ws_seq ?_
      refine ws_ctx (Γ' := [.own true ((wLst K yInt) _law_source_here), .val ((ySeqq K yStr) _law_names), .val ((yLst K yStr) _law_ends), .any, .any]) rfl ?_
      refine ws_setL yStr ?_
      refine wx_op ?_
      refine wx_var rfl ?_
      refine ⟨_, rfl, ?_⟩
      refine wx_call ?_
      refine wa_io rfl ?_
      refine wa_cons ?_
      refine wx_cb ?_
      refine wa_cons ?_
      refine wx_var rfl ?_
      refine ⟨_, rfl, ?_⟩
      refine wa_nil ?_
      refine rc_lenSq (pLst K) ?_
      rw [List.length_map]
      refine ⟨_, rfl, ?_⟩
      refine wa_nil ?_
      refine rc_call _ _ _ ⟨_law_source_here, (_law_ends.length : Int), rfl, rfl⟩ ⟨⟨_, rfl⟩, rfl, trivial⟩ (show List.Nodup ([0] : List Nat) by decide) rfl (.inr fun _ z => by first | exact noerr_ne z | exact (nomatch z)) fun r2 _ => ?_
      refine ⟨_, rfl, ?_⟩
      refine rx_ixLp (t := yStr) (xs := _law_ends) rfl fun r3 => ?_
      refine ⟨r3, _, rfl, show 3 < 5 by decide, rfl, fun _law_x => ?_⟩
      refine ws_seq ?_
      refine ws_ctx (Γ' := [.own true ((wLst K yInt) r2.2), .val ((ySeqq K yStr) _law_names), .val ((yLst K yStr) _law_ends), .val (yStr _law_x), .any]) rfl ?_
      refine ws_setL yStr ?_
      refine wx_op ?_
      refine wx_var rfl ?_
      refine ⟨_, rfl, ?_⟩
      refine wx_call ?_
      refine wa_io rfl ?_
      refine wa_cons ?_
      refine wx_cb ?_
      refine wa_cons ?_
      refine wx_var rfl ?_
      refine ⟨_, rfl, ?_⟩
      refine wa_nil ?_
      refine rc_lenSq (pLst K) ?_
      rw [List.length_map]
      refine ⟨_, rfl, ?_⟩
      refine wa_nil ?_
      refine rc_call _ _ _ ⟨r2.2, (_law_ends.length : Int), rfl, rfl⟩ ⟨⟨_, rfl⟩, rfl, trivial⟩ (show List.Nodup ([0] : List Nat) by decide) rfl (.inr fun _ z => by first | exact noerr_ne z | exact (nomatch z)) fun r4 _ => ?_
      refine ⟨_, rfl, ?_⟩
      refine rx_ixLp (t := yStr) (xs := _law_ends) rfl fun r5 => ?_
      refine ⟨r5, _, rfl, show 4 < 5 by decide, rfl, fun _law_y => ?_⟩
      refine ws_seq ?_
      refine ws_ctx (Γ' := [.own true ((wLst K yInt) r4.2), .val ((ySeqq K yStr) _law_names), .val ((yLst K yStr) _law_ends), .val (yStr _law_x), .val (yStr _law_y)]) rfl ?_
      refine ws_blk (fun s1 : (Str) => [.own true ((wLst K yInt) r4.2), .val ((ySeqq K yStr) _law_names), .val ((yLst K yStr) _law_ends), .val (yStr _law_x), .val (yStr s1)]) rfl ?_ ?_
      · refine ws_if ?_
        refine wt_and (!decide (_law_x = ("" : Str))) ?_
        refine wt_b ?_
        refine wx_op ?_
        refine wx_var rfl ?_
        refine ⟨_, rfl, ?_⟩
        refine wx_var rfl ?_
        refine ⟨_, rfl, ?_⟩
        refine rx_eq ?_
        refine ⟨_, rfl, ?_⟩
        refine ⟨fun _ => ?_, ?_⟩
        · refine wt_b ?_
          refine wx_op ?_
          refine wx_var rfl ?_
          refine ⟨_, rfl, ?_⟩
          refine wx_str ?_
          refine ⟨_, rfl, ?_⟩
          refine rx_ne ?_
          refine ⟨_, rfl, ?_⟩
          exact ⟨rfl, rfl, rfl⟩
        refine ⟨_, _, rfl, ?_, ?_⟩
        · refine ws_ctx (Γ' := [.own true ((wLst K yInt) r4.2), .val ((ySeqq K yStr) _law_names), .val ((yLst K yStr) _law_ends), .val (yStr _law_x), .val (yStr _law_y)]) rfl ?_
          refine ws_setL yStr ?_
          refine wx_str ?_
          refine ⟨("" : Str), _, rfl, show 4 < 5 by decide, rfl, fun _law_y => ?_⟩
          exact ⟨_, rfl, by walk_at "subc"⟩
        · refine ws_next ?_
          exact ⟨_, rfl, by walk_at "subc"⟩
      intro s1
      refine ws_ctx (Γ' := [.own true ((wLst K yInt) r4.2), .val ((ySeqq K yStr) _law_names), .val ((yLst K yStr) _law_ends), .val (yStr _law_x), .val (yStr s1)]) rfl ?_
      refine ws_ret ?_
      refine wx_tup (K := K) ?_
      refine wa_cons ?_
      refine wx_var rfl ?_
      refine ⟨_, rfl, ?_⟩
      refine wa_cons ?_
      refine wx_var rfl ?_
      refine ⟨_, rfl, ?_⟩
      refine wa_cons ?_
      refine wx_call ?_
      refine wa_io rfl ?_
      refine wa_nil ?_
      refine rc_call _ _ _ ⟨r4.2, rfl, rfl⟩ ⟨⟨_, rfl⟩, trivial⟩ (show List.Nodup ([0] : List Nat) by decide) rfl (.inr fun _ z => by first | exact noerr_ne z | exact (nomatch z)) fun r6 _ => ?_
      refine ⟨_, rfl, ?_⟩
      refine wa_nil ?_
      refine ⟨[yStr _law_x, yStr s1, yInt r6.1], rfl, show 3 ≤ 1000 by decide, ?_⟩
      exact ⟨_, rfl, rfl, (by first | trivial | exact ⟨rfl, trivial⟩ | exact ⟨rfl, rfl, trivial⟩)⟩
def pre__law_theory (K : PySem.W.Frag) (A : Nat → Addr) : List Ar → Cl → Prop := fun as d => ∃ (_law_source_here : (List Int)), as = [.io ((wLst K yInt) _law_source_here)] ∧ d = ⟨(((List Str) × (List (Str × Str × Int))) × (List Int)), f__law_theory _law_source_here, fun r => .val ((yPr K (yTup K yStr) (yTup K (yTr K yStr yStr yInt))) r.1), fun r => [(wLst K yInt) r.2]⟩
theorem ok__law_theory (T : Txt K mg A D) : FnOk P w K mg base CX0 4 (A 14) (D 14) ["_law_source_here"] (spM A (pre__law_theory K A)) := by
  refine T.F__law_theory.ok sc__law_theory (fun vs H Q E h => ?_) (fun cdv A' outer s H vs Q E hr h => ?_)
  · exact spM_len h fun as d hp => by obtain ⟨_law_source_here, rfl, rfl⟩ := hp; rfl
  · have hu := hu_of hr
    have G__law_some : FnOk P w K mg base CX0 2 (A 11) (D 11) ["_law_source_here", "_law_names", "_law_most"] (spM A (pre__law_some K A)) := ok__law_some T
    have G__law_draw : FnOk P w K mg base CX0 1 (A 10) (D 10) ["_law_source_here", "_law_limit"] (spM A (pre__law_draw K A)) := ok__law_draw T
    have G__law_constraint : FnOk P w K mg base CX0 3 (A 13) (D 13) ["_law_source_here", "_law_names"] (spM A (pre__law_constraint K A)) := ok__law_constraint T
    refine ⟨_, (pss_cons (ps_set (i := 1) sc__law_theory.nd rfl (Or.inl rfl) (pe_lst (pa_cons pe_str (pa_cons pe_str (pa_cons pe_str (pa_cons pe_str (pa_cons pe_str (pa_cons pe_str (pa_cons pe_str (pa_cons pe_str pa_nil))))))))))
      (pss_cons (ps_set (i := 2) sc__law_theory.nd rfl (Or.inl rfl) (pe_call G__law_some (hr.mono (by decide)) rfl T.g__law_some T.F__law_some.kp T.b__law_some .nil pass0 (pa_cons (pv 0) (pa_cons (pe_slice (sK_list (K := K) rfl) (pv 1) (po_some (pe_call G__law_draw (hr.mono (by decide)) rfl T.g__law_draw T.F__law_draw.kp T.b__law_draw .nil pass0 (pa_cons (pv 0) (pa_cons pe_int pa_nil)))) po_none) (pa_cons (pe_call G__law_draw (hr.mono (by decide)) rfl T.g__law_draw T.F__law_draw.kp T.b__law_draw .nil pass0 (pa_cons (pv 0) (pa_cons pe_int pa_nil))) pa_nil)))))
      (pss_cons (ps_set (i := 3) sc__law_theory.nd rfl (Or.inl rfl) (pe_lst pa_nil))
      (pss_cons (ps_for PassesOwn.never rfl (pi_range1 rfl T.z_range (pa_cons (pe_call G__law_draw (hr.mono (by decide)) rfl T.g__law_draw T.F__law_draw.kp T.b__law_draw .nil pass0 (pa_cons (pv 0) (pa_cons pe_int pa_nil))) pa_nil)) (pg_name (i := 4) sc__law_theory.nd rfl (Or.inl rfl))
        (pss_one (ps_expr (pe_bm PySem.F.plainAttrs_list PySem.F.slot_list_append PySem.F.type_list_append mt_append (pv 3) (pa_cons (pe_call G__law_constraint (hr.mono (by decide)) rfl T.g__law_constraint T.F__law_constraint.kp T.b__law_constraint .nil pass0 (pa_cons (pv 0) (pa_cons (pv 2) pa_nil))) pa_nil)))))
      (pss_one (ps_ret (pe_tup (pa_cons (pe_callTy (T := "tuple") (cK_tuple (K := K) rfl) (by rfl) T.z_tuple (by decide +kernel) (pa_cons (pv 2) pa_nil)) (pa_cons (pe_callTy (T := "tuple") (cK_tuple (K := K) rfl) (by rfl) T.z_tuple (by decide +kernel) (pa_cons (pv 3) pa_nil)) pa_nil))))))))), ?_⟩
    refine fn_run0 h (fun as d hp => ?_) fun as d hp => ?_
    · obtain ⟨_law_source_here, rfl, rfl⟩ := hp; simp
    · obtain ⟨_law_source_here, rfl, rfl⟩ := hp
      refine ⟨_, (show f__law_theory _law_source_here = Res.noerr _ from rfl), ?_⟩
      refine ws_seq ?_
      refine ws_ctx (Γ' := [.own true ((wLst K yInt) _law_source_here), .any, .any, .any, .any]) rfl ?_
      refine ws_setL (yLst K yStr) ?_
      refine wx_fz ?_
      refine wx_lst (K := K) ?_
      refine wa_cons ?_
      refine wx_str ?_
      refine ⟨_, rfl, ?_⟩
      refine wa_cons ?_
      refine wx_str ?_
      refine ⟨_, rfl, ?_⟩
      refine wa_cons ?_
      refine wx_str ?_
      refine ⟨_, rfl, ?_⟩
      refine wa_cons ?_
      refine wx_str ?_
      refine ⟨_, rfl, ?_⟩
      refine wa_cons ?_
      refine wx_str ?_
      refine ⟨_, rfl, ?_⟩
      refine wa_cons ?_
      refine wx_str ?_
      refine ⟨_, rfl, ?_⟩
      refine wa_cons ?_
      refine wx_str ?_
      refine ⟨_, rfl, ?_⟩
      refine wa_cons ?_
      refine wx_str ?_
      refine ⟨_, rfl, ?_⟩
      refine wa_nil ?_
      refine ⟨[yStr ("a" : Str), yStr ("a1" : Str), yStr ("b" : Str), yStr ("b.c" : Str), yStr ("c" : Str), yStr ("d" : Str), yStr ("x9" : Str), yStr ("zz" : Str)], rfl, show 8 ≤ 1000 by decide, ?_⟩
      refine ⟨_, rfl, ?_⟩
      refine ⟨([("a" : Str), ("a1" : Str), ("b" : Str), ("b.c" : Str), ("c" : Str), ("d" : Str), ("x9" : Str), ("zz" : Str)] : List Str), _, rfl, show 1 < 5 by decide, rfl, fun _law_pool => ?_⟩
      refine ws_seq ?_
      refine ws_ctx (Γ' := [.own true ((wLst K yInt) _law_source_here), .val ((yLst K yStr) _law_pool), .any, .any, .any]) rfl ?_
      refine ws_setL (yLst K yStr) ?_
      refine wx_fz ?_
      refine wx_call ?_
      refine wa_io rfl ?_
      refine wa_cons ?_
      refine wx_toSeqL (K := K) ?_
      refine wx_fz ?_
      refine wx_slL ?_
      refine wx_var rfl ?_
      refine ⟨_, rfl, ?_⟩
      refine wo_some ?_
      refine wx_call ?_
      refine wa_io rfl ?_
      refine wa_cons ?_
      refine wx_int ?_
      refine ⟨_, rfl, ?_⟩
      refine wa_nil ?_
      refine rc_call _ _ _ ⟨_law_source_here, (4 : Int), rfl, rfl⟩ ⟨⟨_, rfl⟩, rfl, trivial⟩ (show List.Nodup ([0] : List Nat) by decide) rfl (.inr fun _ z => by first | exact noerr_ne z | exact (nomatch z)) fun r1 _ => ?_
      refine ⟨_, rfl, ?_⟩
      refine wo_no ?_
      rw [pcut_map]
      refine ⟨_, rfl, ?_⟩
      refine ⟨_, rfl, ?_⟩
      refine ⟨_, rfl, ?_⟩
      refine wa_cons ?_
      refine wx_call ?_
      refine wa_io rfl ?_
      refine wa_cons ?_
      refine wx_int ?_
      refine ⟨_, rfl, ?_⟩
      refine wa_nil ?_
      refine rc_call _ _ _ ⟨r1.2, (5 : Int), rfl, rfl⟩ ⟨⟨_, rfl⟩, rfl, trivial⟩ (show List.Nodup ([0] : List Nat) by decide) rfl (.inr fun _ z => by first | exact noerr_ne z | exact (nomatch z)) fun r2 _ => ?_
      refine ⟨_, rfl, ?_⟩
      refine wa_nil ?_
      refine rc_call _ _ _ ⟨r2.2, (pcut _law_pool (some r1.1) none), r2.1, rfl, rfl⟩ ⟨⟨_, rfl⟩, rfl, rfl, trivial⟩ (show List.Nodup ([0] : List Nat) by decide) rfl (.inr fun _ z => by first | exact noerr_ne z | exact (nomatch z)) fun r3 _ => ?_
      refine ⟨_, rfl, ?_⟩
      refine ⟨r3.1, _, rfl, show 2 < 5 by decide, rfl, fun _law_names => ?_⟩
      refine ws_seq ?_
      refine ws_ctx (Γ' := [.own true ((wLst K yInt) r3.2), .val ((yLst K yStr) _law_pool), .val ((yLst K yStr) _law_names), .any, .any]) rfl ?_
      refine ws_setO (wLst K (yTr K yStr yStr yInt)) ?_
      refine wx_lst (K := K) ?_
      refine wa_nil ?_
      refine ⟨[], rfl, show 0 ≤ 1000 by decide, ?_⟩
      refine ⟨([] : List (Str × Str × Int)), _, rfl, show 3 < 5 by decide, rfl, fun _law_constraints => ?_⟩
      refine ws_seq ?_
      refine ws_ctx (Γ' := [.own true ((wLst K yInt) r3.2), .val ((yLst K yStr) _law_pool), .val ((yLst K yStr) _law_names), .own false ((wLst K (yTr K yStr yStr yInt)) _law_constraints), .any]) rfl ?_
      refine ws_for (μ := ((List Int) × (List (Str × Str × Int)))) yInt ?_
      refine wi_rng1 ?_
      refine wa_cons ?_
      refine wx_call ?_
      refine wa_io rfl ?_
      refine wa_cons ?_
      refine wx_int ?_
      refine ⟨_, rfl, ?_⟩
      refine wa_nil ?_
      refine rc_call _ _ _ ⟨r3.2, (9 : Int), rfl, rfl⟩ ⟨⟨_, rfl⟩, rfl, trivial⟩ (show List.Nodup ([0] : List Nat) by decide) rfl (.inr fun _ z => by first | exact noerr_ne z | exact (nomatch z)) fun r4 _ => ?_
      refine ⟨_, rfl, ?_⟩
      refine wa_nil ?_
      refine ⟨_, _, rfl, rfl, ?_⟩
      refine ⟨_, (fun s1 : ((List Int) × (List (Str × Str × Int))) => [.own true ((wLst K yInt) s1.1), .val ((yLst K yStr) _law_pool), .val ((yLst K yStr) _law_names), .own false ((wLst K (yTr K yStr yStr yInt)) s1.2), .any]), (rng 0 (r4.1).toNat), _, _, rfl, rfl, by walk_at "subc", fun s1 q1 => ?_, fun s1 => ?_⟩
      · refine wg_name (show 4 < 5 by decide) ?_
        refine ws_ctx (Γ' := [.own true ((wLst K yInt) s1.1), .val ((yLst K yStr) _law_pool), .val ((yLst K yStr) _law_names), .own false ((wLst K (yTr K yStr yStr yInt)) s1.2), .val (yInt q1)]) rfl ?_
        refine ws_append (yTr K yStr yStr yInt) (xs0 := s1.2) rfl ?_
        refine wx_call ?_
        refine wa_io rfl ?_
        refine wa_cons ?_
        refine wx_toSeqL (K := K) ?_
        refine wx_var rfl ?_
        refine ⟨_, rfl, ?_⟩
        refine ⟨_, rfl, ?_⟩
        refine wa_nil ?_
        refine rc_call _ _ _ ⟨s1.1, _law_names, rfl, rfl⟩ ⟨⟨_, rfl⟩, rfl, trivial⟩ (show List.Nodup ([0] : List Nat) by decide) rfl (.inr fun _ z => by first | exact noerr_ne z | exact (nomatch z)) fun r6 _ => ?_
        refine ⟨_, s1.2, r6.1, _, rfl, rfl, rfl, fun z1 => ?_⟩
        exact ⟨_, rfl, by walk_at "subc"⟩
      refine ws_ctx (Γ' := [.own true ((wLst K yInt) s1.1), .val ((yLst K yStr) _law_pool), .val ((yLst K yStr) _law_names), .own false ((wLst K (yTr K yStr yStr yInt)) s1.2), .any]) rfl ?_
      refine ws_frz 3 rfl ?_
      refine ws_ret ?_
      refine wx_tup (K := K) ?_
      refine wa_cons ?_
      refine wx_cb ?_
      refine wa_cons ?_
      refine wx_var rfl ?_
      refine ⟨_, rfl, ?_⟩
      refine wa_nil ?_
      refine rc_tuple (pLst K) ?_
      refine ⟨_, rfl, ?_⟩
      refine wa_cons ?_
      refine wx_cb ?_
      refine wa_cons ?_
      refine wx_var rfl ?_
      refine ⟨_, rfl, ?_⟩
      refine wa_nil ?_
      refine rc_tuple (pLst K) ?_
      refine ⟨_, rfl, ?_⟩
      refine wa_nil ?_
      refine ⟨[(yTup K yStr) _law_names, (yTup K (yTr K yStr yStr yInt)) s1.2], rfl, show 2 ≤ 1000 by decide, ?_⟩
      exact ⟨_, rfl, rfl, (by first | trivial | exact ⟨rfl, trivial⟩ | exact ⟨rfl, rfl, trivial⟩)⟩
def pre__law_sums (P : Program) (w : World) (K : PySem.W.Frag) (A : Nat → Addr) : List Ar → Cl → Prop := fun as d => ∃ (_law_theory_here : ((List Str) × (List (Str × Str × Int)))), as = [.val ((yPr K (yTup K yStr) (yTup K (yTr K yStr yStr yInt))) _law_theory_here)] ∧ d = ⟨((List ((Str × Str) × Int))), f__law_sums _law_theory_here, fun r => .own ((wDn K P w (yPr K yStr yStr) yInt) r), fun r => []⟩
theorem ok__law_sums (T : Txt K mg A D) : FnOk P w K mg base CX0 1 (A 15) (D 15) ["_law_theory_here"] (spM A (pre__law_sums P w K A)) := by
  refine T.F__law_sums.ok sc__law_sums (fun vs H Q E h => ?_) (fun cdv A' outer s H vs Q E hr h => ?_)
  · exact spM_len h fun as d hp => by obtain ⟨_law_theory_here, rfl, rfl⟩ := hp; rfl
  · have hu := hu_of hr
    refine ⟨_, (pss_cons (ps_set (i := 1) sc__law_sums.nd rfl (Or.inl rfl) (pe_op (op_catS (K := K) rfl) (pe_lst (pa_cons pe_str pa_nil)) (pe_callTy (T := "list") (cK_list (K := K) rfl) (by rfl) T.z_list (by decide +kernel) (pa_cons (pe_ix (xK_tup (K := K) rfl) (pv 0) pe_int (fun _ _ => rfl)) pa_nil))))
      (pss_cons (ps_set (i := 2) sc__law_sums.nd rfl (Or.inl rfl) (pe_dnewN (VN P w)))
      (pss_cons (ps_for PassesOwn.never rfl (iK_list (K := K) rfl (pv 1)) (pg_name (i := 3) sc__law_sums.nd rfl (Or.inl rfl))
        (pss_one (ps_dputN (K := K) (G := KyOf K (yPr K yStr yStr)) (VN P w) rfl rfl rfl (kyOf_ok (by decide)) lv7 hr.units (pv 2) (pe_tup (pa_cons (pv 3) (pa_cons (pv 3) pa_nil))) pe_int rfl)))
      (pss_cons (ps_for PassesOwn.never rfl (iK_tup (K := K) rfl (pe_ix (xK_tup (K := K) rfl) (pv 0) pe_int (fun _ _ => rfl))) (pg_name (i := 4) sc__law_sums.nd rfl (Or.inl rfl))
        (pss_cons (ps_set (i := 5) sc__law_sums.nd rfl (Or.inl rfl) (pe_tup (pa_cons (pe_ix (xK_tup (K := K) rfl) (pv 4) pe_int (fun _ _ => rfl)) (pa_cons (pe_ix (xK_tup (K := K) rfl) (pv 4) pe_int (fun _ _ => rfl)) pa_nil))))
        (pss_one (ps_if (PW.pt (pw_or (pt_cmp (pc_dninN (K := K) (G := KyOf K (yPr K yStr yStr)) (VN P w) rfl rfl rfl (kyOf_ok (by decide)) lv7 hr.units (pv 5) (pv 2))) (pw_or1 (pt_cmpR op_lt (pe_ix (xK_tup (K := K) rfl) (pv 4) pe_int (fun _ _ => rfl)) (pe_dgetN (K := K) (G := KyOf K (yPr K yStr yStr)) (VN P w) rfl rfl rfl (kyOf_ok (by decide)) lv7 hr.units (pv 2) (pv 5) (fun _ _ => rfl)) (nomark _)))))
          (pss_one (ps_dputN (K := K) (G := KyOf K (yPr K yStr yStr)) (VN P w) rfl rfl rfl (kyOf_ok (by decide)) lv7 hr.units (pv 2) (pv 5) (pe_ix (xK_tup (K := K) rfl) (pv 4) pe_int (fun _ _ => rfl)) rfl))
          pss_nil))))
      (pss_cons (ps_for PassesOwn.never rfl (iK_list (K := K) rfl (pv 1)) (pg_name (i := 6) sc__law_sums.nd rfl (Or.inl rfl))
        (pss_one (ps_for PassesOwn.never rfl (iK_list (K := K) rfl (pv 1)) (pg_name (i := 7) sc__law_sums.nd rfl (Or.inl rfl))
          (pss_one (ps_for PassesOwn.never rfl (iK_list (K := K) rfl (pv 1)) (pg_name (i := 8) sc__law_sums.nd rfl (Or.inl rfl))
            (pss_one (ps_if (PW.pt (pw_and (pt_cmp (pc_dinN (K := K) (G := KyOf K (yPr K yStr yStr)) (VN P w) rfl rfl rfl (kyOf_ok (by decide)) lv7 hr.units (pe_tup (pa_cons (pv 7) (pa_cons (pv 6) pa_nil))) (pv 2))) (pw_and1 (pt_cmp (pc_dinN (K := K) (G := KyOf K (yPr K yStr yStr)) (VN P w) rfl rfl rfl (kyOf_ok (by decide)) lv7 hr.units (pe_tup (pa_cons (pv 6) (pa_cons (pv 8) pa_nil))) (pv 2))))))
              (pss_cons (ps_set (i := 9) sc__law_sums.nd rfl (Or.inl rfl) (pe_op op_add (pe_dgetN (K := K) (G := KyOf K (yPr K yStr yStr)) (VN P w) rfl rfl rfl (kyOf_ok (by decide)) lv7 hr.units (pv 2) (pe_tup (pa_cons (pv 7) (pa_cons (pv 6) pa_nil))) (fun _ _ => rfl)) (pe_dgetN (K := K) (G := KyOf K (yPr K yStr yStr)) (VN P w) rfl rfl rfl (kyOf_ok (by decide)) lv7 hr.units (pv 2) (pe_tup (pa_cons (pv 6) (pa_cons (pv 8) pa_nil))) (fun _ _ => rfl))))
              (pss_one (ps_if (PW.pt (pw_or (pt_cmp (pc_dninN (K := K) (G := KyOf K (yPr K yStr yStr)) (VN P w) rfl rfl rfl (kyOf_ok (by decide)) lv7 hr.units (pe_tup (pa_cons (pv 7) (pa_cons (pv 8) pa_nil))) (pv 2))) (pw_or1 (pt_cmpR op_lt (pv 9) (pe_dgetN (K := K) (G := KyOf K (yPr K yStr yStr)) (VN P w) rfl rfl rfl (kyOf_ok (by decide)) lv7 hr.units (pv 2) (pe_tup (pa_cons (pv 7) (pa_cons (pv 8) pa_nil))) (fun _ _ => rfl)) (nomark _)))))
                (pss_one (ps_dputN (K := K) (G := KyOf K (yPr K yStr yStr)) (VN P w) rfl rfl rfl (kyOf_ok (by decide)) lv7 hr.units (pv 2) (pe_tup (pa_cons (pv 7) (pa_cons (pv 8) pa_nil))) (pv 9) rfl))
                pss_nil)))
              pss_nil)))))))
      (pss_one (ps_ret (pv 2)))))))), ?_⟩
    refine fn_run0 h (fun as d hp => ?_) fun as d hp => ?_
    · obtain ⟨_law_theory_here, rfl, rfl⟩ := hp; simp
    · obtain ⟨_law_theory_here, rfl, rfl⟩ := hp
      refine ⟨_, (show f__law_sums _law_theory_here = Res.noerr _ from rfl), ?_⟩
      refine ws_seq ?_
      refine ws_ctx (Γ' := [.val ((yPr K (yTup K yStr) (yTup K (yTr K yStr yStr yInt))) _law_theory_here), .any, .any, .any, .any, .any, .any, .any, .any, .any]) rfl ?_
      refine ws_setL (yLst K yStr) ?_
      refine wx_fz ?_
      refine wx_op ?_
      refine wx_fz ?_
      refine wx_lst (K := K) ?_
      refine wa_cons ?_
      refine wx_str ?_
      refine ⟨_, rfl, ?_⟩
      refine wa_nil ?_
      refine ⟨[yStr ("" : Str)], rfl, show 1 ≤ 1000 by decide, ?_⟩
      refine ⟨_, rfl, ?_⟩
      refine ⟨_, rfl, ?_⟩
      refine wx_fz ?_
      refine wx_cb ?_
      refine wa_cons ?_
      refine wx_op ?_
      refine wx_var rfl ?_
      refine ⟨_, rfl, ?_⟩
      refine wx_int ?_
      refine ⟨_, rfl, ?_⟩
      refine rx_ixT rfl ?_
      refine ⟨_, rfl, ?_⟩
      refine wa_nil ?_
      refine rc_list (pTup K) ?_
      refine ⟨_, rfl, ?_⟩
      refine ⟨_, rfl, ?_⟩
      refine rx_catL (t := yStr) (xs := ([("" : Str)] : List Str)) (ys := _law_theory_here.1) rfl ?_
      refine ⟨_, rfl, ?_⟩
      refine ⟨(([("" : Str)] : List Str) ++ _law_theory_here.1), _, rfl, show 1 < 10 by decide, rfl, fun _law_places => ?_⟩
      refine ws_seq ?_
      refine ws_ctx (Γ' := [.val ((yPr K (yTup K yStr) (yTup K (yTr K yStr yStr yInt))) _law_theory_here), .val ((yLst K yStr) _law_places), .any, .any, .any, .any, .any, .any, .any, .any]) rfl ?_
      refine ws_setO (wDn K P w (yPr K yStr yStr) yInt) ?_
      refine wx_nnew (K := K) (t := (yPr K yStr yStr)) (u := yInt) ?_
      refine ⟨([] : (List ((Str × Str) × Int))), _, rfl, show 2 < 10 by decide, rfl, fun _law_sums_here => ?_⟩
      refine ws_seq ?_
      refine ws_ctx (Γ' := [.val ((yPr K (yTup K yStr) (yTup K (yTr K yStr yStr yInt))) _law_theory_here), .val ((yLst K yStr) _law_places), .own false ((wDn K P w (yPr K yStr yStr) yInt) _law_sums_here), .any, .any, .any, .any, .any, .any, .any]) rfl ?_
      refine ws_for (μ := ((List ((Str × Str) × Int)))) yStr ?_
      refine wi_list ?_
      refine wx_var rfl ?_
      refine ⟨_, rfl, ?_⟩
      refine ⟨_, (fun s1 : ((List ((Str × Str) × Int))) => [.val ((yPr K (yTup K yStr) (yTup K (yTr K yStr yStr yInt))) _law_theory_here), .val ((yLst K yStr) _law_places), .own false ((wDn K P w (yPr K yStr yStr) yInt) s1), .any, .any, .any, .any, .any, .any, .any]), _law_places, _, _, rfl, rfl, by walk_at "subc", fun s1 q1 => ?_, fun s1 => ?_⟩
      · refine wg_name (show 3 < 10 by decide) ?_
        refine ws_ctx (Γ' := [.val ((yPr K (yTup K yStr) (yTup K (yTr K yStr yStr yInt))) _law_theory_here), .val ((yLst K yStr) _law_places), .own false ((wDn K P w (yPr K yStr yStr) yInt) s1), .val (yStr q1), .any, .any, .any, .any, .any, .any]) rfl ?_
        refine ws_nput (K := K) (t := (yPr K yStr yStr)) (u := yInt) (fun _ => ref_tup) ?_
        refine wx_int ?_
        refine ⟨(0 : Int), rfl, ⟨_, _, rfl⟩, ?_⟩
        refine wx_tup (K := K) ?_
        refine wa_cons ?_
        refine wx_var rfl ?_
        refine ⟨_, rfl, ?_⟩
        refine wa_cons ?_
        refine wx_var rfl ?_
        refine ⟨_, rfl, ?_⟩
        refine wa_nil ?_
        refine ⟨[yStr q1, yStr q1], rfl, show 2 ≤ 1000 by decide, ?_⟩
        refine ⟨_, (q1, q1), _, s1, rfl, rfl, rfl, fun d1 => ?_⟩
        exact ⟨_, rfl, by walk_at "subc"⟩
      refine ws_seq ?_
      refine ws_ctx (Γ' := [.val ((yPr K (yTup K yStr) (yTup K (yTr K yStr yStr yInt))) _law_theory_here), .val ((yLst K yStr) _law_places), .own false ((wDn K P w (yPr K yStr yStr) yInt) s1), .any, .any, .any, .any, .any, .any, .any]) rfl ?_
      refine ws_for (μ := ((List ((Str × Str) × Int)))) (yTr K yStr yStr yInt) ?_
      refine wi_tup ?_
      refine wx_op ?_
      refine wx_var rfl ?_
      refine ⟨_, rfl, ?_⟩
      refine wx_int ?_
      refine ⟨_, rfl, ?_⟩
      refine rx_ixT rfl ?_
      refine ⟨_, rfl, ?_⟩
      refine ⟨_, (fun s2 : ((List ((Str × Str) × Int))) => [.val ((yPr K (yTup K yStr) (yTup K (yTr K yStr yStr yInt))) _law_theory_here), .val ((yLst K yStr) _law_places), .own false ((wDn K P w (yPr K yStr yStr) yInt) s2), .any, .any, .any, .any, .any, .any, .any]), _law_theory_here.2, _, _, rfl, rfl, by walk_at "subc", fun s2 q2 => ?_, fun s2 => ?_⟩
      · refine wg_name (show 4 < 10 by decide) ?_
        refine ws_seq ?_
        refine ws_ctx (Γ' := [.val ((yPr K (yTup K yStr) (yTup K (yTr K yStr yStr yInt))) _law_theory_here), .val ((yLst K yStr) _law_places), .own false ((wDn K P w (yPr K yStr yStr) yInt) s2), .any, .val ((yTr K yStr yStr yInt) q2), .any, .any, .any, .any, .any]) rfl ?_
        refine ws_setL (yPr K yStr yStr) ?_
        refine wx_tup (K := K) ?_
        refine wa_cons ?_
        refine wx_op ?_
        refine wx_var rfl ?_
        refine ⟨_, rfl, ?_⟩
        refine wx_int ?_
        refine ⟨_, rfl, ?_⟩
        refine rx_ixT rfl ?_
        refine ⟨_, rfl, ?_⟩
        refine wa_cons ?_
        refine wx_op ?_
        refine wx_var rfl ?_
        refine ⟨_, rfl, ?_⟩
        refine wx_int ?_
        refine ⟨_, rfl, ?_⟩
        refine rx_ixT rfl ?_
        refine ⟨_, rfl, ?_⟩
        refine wa_nil ?_
        refine ⟨[yStr q2.1, yStr q2.2.1], rfl, show 2 ≤ 1000 by decide, ?_⟩
        refine ⟨(q2.1, q2.2.1), _, rfl, show 5 < 10 by decide, rfl, fun _law_pair => ?_⟩
        refine ws_ctx (Γ' := [.val ((yPr K (yTup K yStr) (yTup K (yTr K yStr yStr yInt))) _law_theory_here), .val ((yLst K yStr) _law_places), .own false ((wDn K P w (yPr K yStr yStr) yInt) s2), .any, .val ((yTr K yStr yStr yInt) q2), .val ((yPr K yStr yStr) _law_pair), .any, .any, .any, .any]) rfl ?_
        refine ws_if ?_
        refine wt_orM (μ := Unit) ?_
        refine wt_b ?_
        refine wx_peek ?_
        refine wx_nnin (K := K) (t := (yPr K yStr yStr)) (u := yInt) ?_
        refine wx_var rfl ?_
        refine ⟨_law_pair, rfl, ?_⟩
        refine wx_var rfl ?_
        refine ⟨s2, rfl, ?_⟩
        refine ⟨_, rfl, imm_bl, ?_⟩
        refine ⟨_, rfl, ?_⟩
        refine ⟨(fun s3 : Unit => [.val ((yPr K (yTup K yStr) (yTup K (yTr K yStr yStr yInt))) _law_theory_here), .val ((yLst K yStr) _law_places), .own false ((wDn K P w (yPr K yStr yStr) yInt) s2), .any, .val ((yTr K yStr yStr yInt) q2), .val ((yPr K yStr yStr) _law_pair), .any, .any, .any, .any]), _, (), _, rfl, by walk_at "subc", fun _ => ?_, fun r3 => ?_⟩
        · refine wt_b ?_
          refine wx_op ?_
          refine wx_op ?_
          refine wx_var rfl ?_
          refine ⟨_, rfl, ?_⟩
          refine wx_int ?_
          refine ⟨_, rfl, ?_⟩
          refine rx_ixT rfl ?_
          refine ⟨_, rfl, ?_⟩
          refine wx_peek ?_
          refine wx_nget (K := K) (t := (yPr K yStr yStr)) (u := yInt) ?_
          refine wx_var rfl ?_
          refine ⟨s2, rfl, ?_⟩
          refine wx_var rfl ?_
          refine ⟨_law_pair, _, rfl, rfl, fun r2 => ?_⟩
          refine ⟨_, rfl, imm_int, ?_⟩
          refine ⟨_, rfl, ?_⟩
          refine rx_cmp rfl ?_
          refine ⟨_, rfl, ?_⟩
          exact ⟨_, rfl, by walk_at "subc"⟩
        refine ⟨_, _, rfl, ?_, ?_⟩
        · refine ws_ctx (Γ' := [.val ((yPr K (yTup K yStr) (yTup K (yTr K yStr yStr yInt))) _law_theory_here), .val ((yLst K yStr) _law_places), .own false ((wDn K P w (yPr K yStr yStr) yInt) s2), .any, .val ((yTr K yStr yStr yInt) q2), .val ((yPr K yStr yStr) _law_pair), .any, .any, .any, .any]) rfl ?_
          refine ws_nput (K := K) (t := (yPr K yStr yStr)) (u := yInt) (fun _ => ref_tup) ?_
          refine wx_op ?_
          refine wx_var rfl ?_
          refine ⟨_, rfl, ?_⟩
          refine wx_int ?_
          refine ⟨_, rfl, ?_⟩
          refine rx_ixT rfl ?_
          refine ⟨q2.2.2, rfl, ⟨_, _, rfl⟩, ?_⟩
          refine wx_var rfl ?_
          refine ⟨_, _law_pair, _, s2, rfl, rfl, rfl, fun d2 => ?_⟩
          exact ⟨_, rfl, by walk_at "subc"⟩
        · refine ws_next ?_
          exact ⟨_, rfl, by walk_at "subc"⟩
      refine ws_seq ?_
      refine ws_ctx (Γ' := [.val ((yPr K (yTup K yStr) (yTup K (yTr K yStr yStr yInt))) _law_theory_here), .val ((yLst K yStr) _law_places), .own false ((wDn K P w (yPr K yStr yStr) yInt) s2), .any, .any, .any, .any, .any, .any, .any]) rfl ?_
      refine ws_for (μ := ((List ((Str × Str) × Int)))) yStr ?_
      refine wi_list ?_
      refine wx_var rfl ?_
      refine ⟨_, rfl, ?_⟩
      refine ⟨_, (fun s4 : ((List ((Str × Str) × Int))) => [.val ((yPr K (yTup K yStr) (yTup K (yTr K yStr yStr yInt))) _law_theory_here), .val ((yLst K yStr) _law_places), .own false ((wDn K P w (yPr K yStr yStr) yInt) s4), .any, .any, .any, .any, .any, .any, .any]), _law_places, _, _, rfl, rfl, by walk_at "subc", fun s4 q3 => ?_, fun s4 => ?_⟩
      · refine wg_name (show 6 < 10 by decide) ?_
        refine ws_ctx (Γ' := [.val ((yPr K (yTup K yStr) (yTup K (yTr K yStr yStr yInt))) _law_theory_here), .val ((yLst K yStr) _law_places), .own false ((wDn K P w (yPr K yStr yStr) yInt) s4), .any, .any, .any, .val (yStr q3), .any, .any, .any]) rfl ?_
        refine ws_for (μ := ((List ((Str × Str) × Int)))) yStr ?_
        refine wi_list ?_
        refine wx_var rfl ?_
        refine ⟨_, rfl, ?_⟩
        refine ⟨_, (fun s5 : ((List ((Str × Str) × Int))) => [.val ((yPr K (yTup K yStr) (yTup K (yTr K yStr yStr yInt))) _law_theory_here), .val ((yLst K yStr) _law_places), .own false ((wDn K P w (yPr K yStr yStr) yInt) s5), .any, .any, .any, .val (yStr q3), .any, .any, .any]), _law_places, _, _, rfl, rfl, by walk_at "subc", fun s5 q4 => ?_, fun s5 => ?_⟩
        · refine wg_name (show 7 < 10 by decide) ?_
          refine ws_ctx (Γ' := [.val ((yPr K (yTup K yStr) (yTup K (yTr K yStr yStr yInt))) _law_theory_here), .val ((yLst K yStr) _law_places), .own false ((wDn K P w (yPr K yStr yStr) yInt) s5), .any, .any, .any, .val (yStr q3), .val (yStr q4), .any, .any]) rfl ?_
          refine ws_for (μ := ((List ((Str × Str) × Int)))) yStr ?_
          refine wi_list ?_
          refine wx_var rfl ?_
          refine ⟨_, rfl, ?_⟩
          refine ⟨_, (fun s6 : ((List ((Str × Str) × Int))) => [.val ((yPr K (yTup K yStr) (yTup K (yTr K yStr yStr yInt))) _law_theory_here), .val ((yLst K yStr) _law_places), .own false ((wDn K P w (yPr K yStr yStr) yInt) s6), .any, .any, .any, .val (yStr q3), .val (yStr q4), .any, .any]), _law_places, _, _, rfl, rfl, by walk_at "subc", fun s6 q5 => ?_, fun s6 => ?_⟩
          · refine wg_name (show 8 < 10 by decide) ?_
            refine ws_ctx (Γ' := [.val ((yPr K (yTup K yStr) (yTup K (yTr K yStr yStr yInt))) _law_theory_here), .val ((yLst K yStr) _law_places), .own false ((wDn K P w (yPr K yStr yStr) yInt) s6), .any, .any, .any, .val (yStr q3), .val (yStr q4), .val (yStr q5), .any]) rfl ?_
            refine ws_if ?_
            refine wt_and (dhas s6 (q3, q5)) ?_
            refine wt_b ?_
            refine wx_peek ?_
            refine wx_nin (K := K) (t := (yPr K yStr yStr)) (u := yInt) ?_
            refine wx_tup (K := K) ?_
            refine wa_cons ?_
            refine wx_var rfl ?_
            refine ⟨_, rfl, ?_⟩
            refine wa_cons ?_
            refine wx_var rfl ?_
            refine ⟨_, rfl, ?_⟩
            refine wa_nil ?_
            refine ⟨[yStr q4, yStr q3], rfl, show 2 ≤ 1000 by decide, ?_⟩
            refine ⟨(q4, q3), rfl, ?_⟩
            refine wx_var rfl ?_
            refine ⟨s6, rfl, ?_⟩
            refine ⟨_, rfl, imm_bl, ?_⟩
            refine ⟨_, rfl, ?_⟩
            refine ⟨fun _ => ?_, ?_⟩
            · refine wt_b ?_
              refine wx_peek ?_
              refine wx_nin (K := K) (t := (yPr K yStr yStr)) (u := yInt) ?_
              refine wx_tup (K := K) ?_
              refine wa_cons ?_
              refine wx_var rfl ?_
              refine ⟨_, rfl, ?_⟩
              refine wa_cons ?_
              refine wx_var rfl ?_
              refine ⟨_, rfl, ?_⟩
              refine wa_nil ?_
              refine ⟨[yStr q3, yStr q5], rfl, show 2 ≤ 1000 by decide, ?_⟩
              refine ⟨(q3, q5), rfl, ?_⟩
              refine wx_var rfl ?_
              refine ⟨s6, rfl, ?_⟩
              refine ⟨_, rfl, imm_bl, ?_⟩
              refine ⟨_, rfl, ?_⟩
              exact ⟨rfl, rfl, rfl⟩
            refine ⟨_, _, rfl, ?_, ?_⟩
            · refine ws_seq ?_
              refine ws_ctx (Γ' := [.val ((yPr K (yTup K yStr) (yTup K (yTr K yStr yStr yInt))) _law_theory_here), .val ((yLst K yStr) _law_places), .own false ((wDn K P w (yPr K yStr yStr) yInt) s6), .any, .any, .any, .val (yStr q3), .val (yStr q4), .val (yStr q5), .any]) rfl ?_
              refine ws_setL yInt ?_
              refine wx_op ?_
              refine wx_peek ?_
              refine wx_nget (K := K) (t := (yPr K yStr yStr)) (u := yInt) ?_
              refine wx_var rfl ?_
              refine ⟨s6, rfl, ?_⟩
              refine wx_tup (K := K) ?_
              refine wa_cons ?_
              refine wx_var rfl ?_
              refine ⟨_, rfl, ?_⟩
              refine wa_cons ?_
              refine wx_var rfl ?_
              refine ⟨_, rfl, ?_⟩
              refine wa_nil ?_
              refine ⟨[yStr q4, yStr q3], rfl, show 2 ≤ 1000 by decide, ?_⟩
              refine ⟨(q4, q3), _, rfl, rfl, fun r4 => ?_⟩
              refine ⟨_, rfl, imm_int, ?_⟩
              refine ⟨_, rfl, ?_⟩
              refine wx_peek ?_
              refine wx_nget (K := K) (t := (yPr K yStr yStr)) (u := yInt) ?_
              refine wx_var rfl ?_
              refine ⟨s6, rfl, ?_⟩
              refine wx_tup (K := K) ?_
              refine wa_cons ?_
              refine wx_var rfl ?_
              refine ⟨_, rfl, ?_⟩
              refine wa_cons ?_
              refine wx_var rfl ?_
              refine ⟨_, rfl, ?_⟩
              refine wa_nil ?_
              refine ⟨[yStr q3, yStr q5], rfl, show 2 ≤ 1000 by decide, ?_⟩
              refine ⟨(q3, q5), _, rfl, rfl, fun r5 => ?_⟩
              refine ⟨_, rfl, imm_int, ?_⟩
              refine ⟨_, rfl, ?_⟩
              refine rx_ari rfl ?_
              refine ⟨(r4 + r5), _, rfl, show 9 < 10 by decide, rfl, fun _law_total => ?_⟩
              refine ws_ctx (Γ' := [.val ((yPr K (yTup K yStr) (yTup K (yTr K yStr yStr yInt))) _law_theory_here), .val ((yLst K yStr) _law_places), .own false ((wDn K P w (yPr K yStr yStr) yInt) s6), .any, .any, .any, .val (yStr q3), .val (yStr q4), .val (yStr q5), .val (yInt _law_total)]) rfl ?_
              refine ws_if ?_
              refine wt_orM (μ := Unit) ?_
              refine wt_b ?_
              refine wx_peek ?_
              refine wx_nnin (K := K) (t := (yPr K yStr yStr)) (u := yInt) ?_
              refine wx_tup (K := K) ?_
              refine wa_cons ?_
              refine wx_var rfl ?_
              refine ⟨_, rfl, ?_⟩
              refine wa_cons ?_
              refine wx_var rfl ?_
              refine ⟨_, rfl, ?_⟩
              refine wa_nil ?_
              refine ⟨[yStr q4, yStr q5], rfl, show 2 ≤ 1000 by decide, ?_⟩
              refine ⟨(q4, q5), rfl, ?_⟩
              refine wx_var rfl ?_
              refine ⟨s6, rfl, ?_⟩
              refine ⟨_, rfl, imm_bl, ?_⟩
              refine ⟨_, rfl, ?_⟩
              refine ⟨(fun s7 : Unit => [.val ((yPr K (yTup K yStr) (yTup K (yTr K yStr yStr yInt))) _law_theory_here), .val ((yLst K yStr) _law_places), .own false ((wDn K P w (yPr K yStr yStr) yInt) s6), .any, .any, .any, .val (yStr q3), .val (yStr q4), .val (yStr q5), .val (yInt _law_total)]), _, (), _, rfl, by walk_at "subc", fun _ => ?_, fun r7 => ?_⟩
              · refine wt_b ?_
                refine wx_op ?_
                refine wx_var rfl ?_
                refine ⟨_, rfl, ?_⟩
                refine wx_peek ?_
                refine wx_nget (K := K) (t := (yPr K yStr yStr)) (u := yInt) ?_
                refine wx_var rfl ?_
                refine ⟨s6, rfl, ?_⟩
                refine wx_tup (K := K) ?_
                refine wa_cons ?_
                refine wx_var rfl ?_
                refine ⟨_, rfl, ?_⟩
                refine wa_cons ?_
                refine wx_var rfl ?_
                refine ⟨_, rfl, ?_⟩
                refine wa_nil ?_
                refine ⟨[yStr q4, yStr q5], rfl, show 2 ≤ 1000 by decide, ?_⟩
                refine ⟨(q4, q5), _, rfl, rfl, fun r6 => ?_⟩
                refine ⟨_, rfl, imm_int, ?_⟩
                refine ⟨_, rfl, ?_⟩
                refine rx_cmp rfl ?_
                refine ⟨_, rfl, ?_⟩
                exact ⟨_, rfl, by walk_at "subc"⟩
              refine ⟨_, _, rfl, ?_, ?_⟩
              · refine ws_ctx (Γ' := [.val ((yPr K (yTup K yStr) (yTup K (yTr K yStr yStr yInt))) _law_theory_here), .val ((yLst K yStr) _law_places), .own false ((wDn K P w (yPr K yStr yStr) yInt) s6), .any, .any, .any, .val (yStr q3), .val (yStr q4), .val (yStr q5), .val (yInt _law_total)]) rfl ?_
                refine ws_nput (K := K) (t := (yPr K yStr yStr)) (u := yInt) (fun _ => ref_tup) ?_
                refine wx_var rfl ?_
                refine ⟨_law_total, rfl, ⟨_, _, rfl⟩, ?_⟩
                refine wx_tup (K := K) ?_
                refine wa_cons ?_
                refine wx_var rfl ?_
                refine ⟨_, rfl, ?_⟩
                refine wa_cons ?_
                refine wx_var rfl ?_
                refine ⟨_, rfl, ?_⟩
                refine wa_nil ?_
                refine ⟨[yStr q4, yStr q5], rfl, show 2 ≤ 1000 by decide, ?_⟩
                refine ⟨_, (q4, q5), _, s6, rfl, rfl, rfl, fun d3 => ?_⟩
                exact ⟨_, rfl, by walk_at "subc"⟩
              · refine ws_next ?_
                exact ⟨_, rfl, by walk_at "subc"⟩
            · refine ws_next ?_
              exact ⟨_, rfl, by walk_at "subc"⟩
          exact ⟨_, rfl, by walk_at "subc"⟩
        exact ⟨_, rfl, by walk_at "subc"⟩
      refine ws_ctx (Γ' := [.val ((yPr K (yTup K yStr) (yTup K (yTr K yStr yStr yInt))) _law_theory_here), .val ((yLst K yStr) _law_places), .own false ((wDn K P w (yPr K yStr yStr) yInt) s4), .any, .any, .any, .any, .any, .any, .any]) rfl ?_
      refine ws_ret ?_
      refine wx_take rfl ?_
      exact ⟨_, rfl, rfl, (by first | trivial | exact ⟨rfl, trivial⟩ | exact ⟨rfl, rfl, trivial⟩)⟩
def pre__law_satisfiable (P : Program) (w : World) (K : PySem.W.Frag) (A : Nat → Addr) : List Ar → Cl → Prop := fun as d => ∃ (_law_theory_here : ((List Str) × (List (Str × Str × Int)))) (_law_sums_here : (List ((Str × Str) × Int))), as = [.val ((yPr K (yTup K yStr) (yTup K (yTr K yStr yStr yInt))) _law_theory_here), .val ((yDn K P w (yPr K yStr yStr) yInt) _law_sums_here)] ∧ d = ⟨(Bool), f__law_satisfiable _law_theory_here _law_sums_here, fun r => .val (yBl r), fun r => []⟩
theorem ok__law_satisfiable (T : Txt K mg A D) : FnOk P w K mg base CX0 1 (A 16) (D 16) ["_law_theory_here", "_law_sums_here"] (spM A (pre__law_satisfiable P w K A)) := by
  refine T.F__law_satisfiable.ok sc__law_satisfiable (fun vs H Q E h => ?_) (fun cdv A' outer s H vs Q E hr h => ?_)
  · exact spM_len h fun as d hp => by obtain ⟨_law_theory_here, _law_sums_here, rfl, rfl⟩ := hp; rfl
  · have hu := hu_of hr
    refine ⟨_, (pss_one (ps_ret (pe_cmpR op_eq (pe_callB (id := "len") (cK_len (K := K) rfl) (by rfl) T.z_len (by decide +kernel) (pa_cons (pe_lc (own := [("_law_place", 2)]) (g := gName 2)  rfl sc__law_satisfiable.nd (iK_list (K := K) rfl (pe_op (op_catS (K := K) rfl) (pe_lst (pa_cons pe_str pa_nil)) (pe_callTy (T := "list") (cK_list (K := K) rfl) (by rfl) T.z_list (by decide +kernel) (pa_cons (pe_ix (xK_tup (K := K) rfl) (pv 0) pe_int (fun _ _ => rfl)) pa_nil)))) (blkOk_by (N := N__law_satisfiable) (sc := defScope (topS 16)) (by decide +kernel)) (fun _ _ _ _ _ => (pg_name (i := 2) sc__law_satisfiable.nd rfl (Or.inl rfl))) (fun _ _ _ _ _ => (pts_one (pt_cmpR op_lt (pe_dgetN (K := K) (G := KyOf K (yPr K yStr yStr)) (VN P w) rfl rfl rfl (kyOf_ok (by decide)) lv7 hr.units (pv 1) (pe_tup (pa_cons (pv 2) (pa_cons (pv 2) pa_nil))) (fun _ _ => rfl)) pe_int (nomark _)))) (fun _ _ _ _ _ => (pv 2))) pa_nil)) pe_int (nomark _)))), ?_⟩
    refine fn_run0 h (fun as d hp => ?_) fun as d hp => ?_
    · obtain ⟨_law_theory_here, _law_sums_here, rfl, rfl⟩ := hp; simp
    · obtain ⟨_law_theory_here, _law_sums_here, rfl, rfl⟩ := hp
      refine ⟨_, (show f__law_satisfiable _law_theory_here _law_sums_here = Res.noerr _ from rfl), ?_⟩
      refine ws_ctx (Γ' := [.val ((yPr K (yTup K yStr) (yTup K (yTr K yStr yStr yInt))) _law_theory_here), .val ((yDn K P w (yPr K yStr yStr) yInt) _law_sums_here), .any]) rfl ?_
      refine ws_ret ?_
      refine wx_op ?_
      refine wx_cb ?_
      refine wa_cons ?_
      refine wx_fz ?_
      refine wx_lcU (K := K) yStr yStr (gk_name (by decide)) ?_
      refine wi_list ?_
      refine wx_fz ?_
      refine wx_op ?_
      refine wx_fz ?_
      refine wx_lst (K := K) ?_
      refine wa_cons ?_
      refine wx_str ?_
      refine ⟨_, rfl, ?_⟩
      refine wa_nil ?_
      refine ⟨[yStr ("" : Str)], rfl, show 1 ≤ 1000 by decide, ?_⟩
      refine ⟨_, rfl, ?_⟩
      refine ⟨_, rfl, ?_⟩
      refine wx_fz ?_
      refine wx_cb ?_
      refine wa_cons ?_
      refine wx_op ?_
      refine wx_var rfl ?_
      refine ⟨_, rfl, ?_⟩
      refine wx_int ?_
      refine ⟨_, rfl, ?_⟩
      refine rx_ixT rfl ?_
      refine ⟨_, rfl, ?_⟩
      refine wa_nil ?_
      refine rc_list (pTup K) ?_
      refine ⟨_, rfl, ?_⟩
      refine ⟨_, rfl, ?_⟩
      refine rx_catL (t := yStr) (xs := ([("" : Str)] : List Str)) (ys := _law_theory_here.1) rfl ?_
      refine ⟨_, rfl, ?_⟩
      refine ⟨_, rfl, ?_⟩
      refine ⟨_, (([("" : Str)] : List Str) ++ _law_theory_here.1), _, rfl, rfl, fun q1 => ?_, fun r3 => ?_⟩
      · refine wg_ctx (Γ' := [.val ((yPr K (yTup K yStr) (yTup K (yTr K yStr yStr yInt))) _law_theory_here), .val ((yDn K P w (yPr K yStr yStr) yInt) _law_sums_here), .any]) rfl ?_
        refine wg_name (show 2 < 3 by decide) ?_
        refine wt_b ?_
        refine wx_op ?_
        refine wx_nget (K := K) (t := (yPr K yStr yStr)) (u := yInt) ?_
        refine wx_var rfl ?_
        refine ⟨_law_sums_here, rfl, ?_⟩
        refine wx_tup (K := K) ?_
        refine wa_cons ?_
        refine wx_var rfl ?_
        refine ⟨_, rfl, ?_⟩
        refine wa_cons ?_
        refine wx_var rfl ?_
        refine ⟨_, rfl, ?_⟩
        refine wa_nil ?_
        refine ⟨[yStr q1, yStr q1], rfl, show 2 ≤ 1000 by decide, ?_⟩
        refine ⟨(q1, q1), _, rfl, rfl, fun r2 => ?_⟩
        refine ⟨_, rfl, ?_⟩
        refine wx_int ?_
        refine ⟨_, rfl, ?_⟩
        refine rx_cmp rfl ?_
        refine ⟨_, rfl, ?_⟩
        refine ⟨_, rfl, ?_⟩
        refine wx_var rfl ?_
        exact ⟨_, rfl, rfl⟩
      refine ⟨_, rfl, ?_⟩
      refine ⟨_, rfl, ?_⟩
      refine wa_nil ?_
      refine rc_lenSq (pLst K) ?_
      rw [List.length_map]
      refine ⟨_, rfl, ?_⟩
      refine wx_int ?_
      refine ⟨_, rfl, ?_⟩
      refine rx_eq ?_
      exact ⟨_, rfl, rfl, (by first | trivial | exact ⟨rfl, trivial⟩ | exact ⟨rfl, rfl, trivial⟩)⟩
def pre__law_is_int (K : PySem.W.Frag) (A : Nat → Addr) : List Ar → Cl → Prop := fun as d => ∃ (_law_value : (Option Int)), as = [.val ((yOpt yInt) _law_value)] ∧ d = ⟨(Bool), .ok (f__law_is_int _law_value), fun r => .val (yBl r), fun r => []⟩
theorem ok__law_is_int (T : Txt K mg A D) : FnOk P w K mg base CX0 1 (A 17) (D 17) ["_law_value"] (spM A (pre__law_is_int K A)) := by
  refine T.F__law_is_int.ok sc__law_is_int (fun vs H Q E h => ?_) (fun cdv A' outer s H vs Q E hr h => ?_)
  · exact spM_len h fun as d hp => by obtain ⟨_law_value, rfl, rfl⟩ := hp; rfl
  · have hu := hu_of hr
    refine ⟨_, (pss_one (ps_ret (pe_and (pe_callB (id := "isinstance") (cK_isi (K := K) rfl) (by rfl) T.z_isinstance (by decide +kernel) (pa_cons (pv 0) (pa_cons (pe_bltn (v := .ty "int") (u := .type "int") (by rfl) T.z_int (by decide +kernel) rfl) pa_nil))) (pe_one (pe_not (pe_callB (id := "isinstance") (cK_isi (K := K) rfl) (by rfl) T.z_isinstance (by decide +kernel) (pa_cons (pv 0) (pa_cons (pe_bltn (v := .ty "bool") (u := .type "bool") (by rfl) T.z_bool (by decide +kernel) rfl) pa_nil)))))))), ?_⟩
    refine fn_run h (fun as d hp => ?_) fun as d hp => ?_
    · obtain ⟨_law_value, rfl, rfl⟩ := hp; simp
    · obtain ⟨_law_value, rfl, rfl⟩ := hp
      refine ⟨_, rfl, ?_⟩
      refine ws_ctx (Γ' := [.val ((yOpt yInt) _law_value)]) rfl ?_
      refine ws_ret ?_
      refine wx_andV (!false) ?_
      refine wx_cb ?_
      refine wa_cons ?_
      refine wx_var rfl ?_
      refine ⟨_, rfl, ?_⟩
      refine wa_cons ?_
      refine wx_c (yCls "int") (fun _ _ => rfl) ?_
      refine ⟨_, rfl, ?_⟩
      refine wa_nil ?_
      refine rc_isiO (K := K) (t := yInt) (x := _law_value) rfl rfl ?_
      refine ⟨_, rfl, fun _ => ?_, ?_⟩
      · refine wx_notV ?_
        refine wx_cb ?_
        refine wa_cons ?_
        refine wx_var rfl ?_
        refine ⟨_, rfl, ?_⟩
        refine wa_cons ?_
        refine wx_c (yCls "bool") (fun _ _ => rfl) ?_
        refine ⟨_, rfl, ?_⟩
        refine wa_nil ?_
        refine rc_isiOF (K := K) (t := yInt) (x := _law_value) rfl rfl ?_
        refine ⟨_, rfl, ?_⟩
        exact ⟨rfl, rfl, rfl⟩
      exact ⟨_, rfl, rfl, (by first | trivial | exact ⟨rfl, trivial⟩ | exact ⟨rfl, rfl, trivial⟩)⟩
def pre__law_difference_right (P : Program) (w : World) (K : PySem.W.Frag) (A : Nat → Addr) : List Ar → Cl → Prop := fun as d => ∃ (_law_actual : ((List Str) × (Option (List ((Str × Str) × Int))) × (List (Str × Str × Int)))) (_law_sums_here : (List ((Str × Str) × Int))) (_law_there : Bool) (_law_x : Str) (_law_y : Str), as = [.val ((yO_Differences P w K A) _law_actual), .val ((yDn K P w (yPr K yStr yStr) yInt) _law_sums_here), .val (yBl _law_there), .val (yStr _law_x), .val (yStr _law_y)] ∧ d = ⟨(Bool), f__law_difference_right _law_actual _law_sums_here _law_there _law_x _law_y, fun r => .val (yBl r), fun r => []⟩
theorem ok__law_difference_right (T : Txt K mg A D) : FnOk P w K mg base CX0 3 (A 18) (D 18) ["_law_actual", "_law_sums_here", "_law_there", "_law_x", "_law_y"] (spM A (pre__law_difference_right P w K A)) := by
  refine T.F__law_difference_right.ok sc__law_difference_right (fun vs H Q E h => ?_) (fun cdv A' outer s H vs Q E hr h => ?_)
  · exact spM_len h fun as d hp => by obtain ⟨_law_actual, _law_sums_here, _law_there, _law_x, _law_y, rfl, rfl⟩ := hp; rfl
  · have hu := hu_of hr
    have G_Differences___getitem__ : FnOk P w K mg base (L2.CX P w) 1 (A 1147) (D 1147) ["self", "at"] (spM A (pre_Differences___getitem__ P w K A)) := ok_Differences___getitem__ T
    have G__law_is_int : FnOk P w K mg base CX0 1 (A 17) (D 17) ["_law_value"] (spM A (pre__law_is_int K A)) := ok__law_is_int T
    refine ⟨_, (pss_cons (ps_try_as (i := 6) rfl rfl sc__law_difference_right.nd rfl rfl ⟨rfl, by decide, .inl T.g_NoSolution⟩ takes0
        (fun W pn xe tk po => (pss_one (ps_set (i := 5) sc__law_difference_right.nd rfl (Or.inl rfl) (pe_ixOS T.M_Differences___getitem__ (fnIn_of T.F_Differences___getitem__) G_Differences___getitem__ (hr.mono (by decide)) T.b_Differences___getitem__ (fun σ => passAt tk σ) (pv 0) (pe_tup (pa_cons (pv 3) (pa_cons (pv 4) pa_nil)))))))
        (fun a oe cls d pn hz hf => (pss_one (ps_ret (pe_and (pe_not (pv 2)) (pe_one (pe_callB (id := "isinstance") (call_is0 T.E0_NoSolution hz hf) (by rfl) T.z_isinstance (by decide +kernel) (pa_cons (pv 6) (pa_cons (pe_glob (v := .ref (A 2)) rfl T.g_ShadowError rfl) pa_nil)))))))))
      (pss_cons (ps_if (pt_not (pt_val (pv 2)))
        (pss_one (ps_ret pe_bl))
        pss_nil)
      (pss_cons (ps_if (pt_cmp (pc_dninN (K := K) (G := KyOf K (yPr K yStr yStr)) (VN P w) rfl rfl rfl (kyOf_ok (by decide)) lv7 hr.units (pe_tup (pa_cons (pv 3) (pa_cons (pv 4) pa_nil))) (pv 1)))
        (pss_one (ps_ret (pe_cmpR op_isN (pv 5) pe_non (nomark _))))
        pss_nil)
      (pss_one (ps_ret (pe_and (pe_call G__law_is_int (hr.mono (by decide)) rfl T.g__law_is_int T.F__law_is_int.kp T.b__law_is_int .nil pass0 (pa_cons (pv 5) pa_nil)) (pe_one (pe_cmpR op_eq (pv 5) (pe_dgetN (K := K) (G := KyOf K (yPr K yStr yStr)) (VN P w) rfl rfl rfl (kyOf_ok (by decide)) lv7 hr.units (pv 1) (pe_tup (pa_cons (pv 3) (pa_cons (pv 4) pa_nil))) (fun _ _ => rfl)) (nomark _))))))))), ?_⟩
    refine fn_run0 h (fun as d hp => ?_) fun as d hp => ?_
    · obtain ⟨_law_actual, _law_sums_here, _law_there, _law_x, _law_y, rfl, rfl⟩ := hp; simp
    · obtain ⟨_law_actual, _law_sums_here, _law_there, _law_x, _law_y, rfl, rfl⟩ := hp
      refine ⟨_, (show f__law_difference_right _law_actual _law_sums_here _law_there _law_x _law_y = Res.noerr _ from rfl), ?_⟩
      refine ws_seq ?_
      refine ws_ctx (Γ' := [.val ((yO_Differences P w K A) _law_actual), .val ((yDn K P w (yPr K yStr yStr) yInt) _law_sums_here), .val (yBl _law_there), .val (yStr _law_x), .val (yStr _law_y), .any, .any]) rfl ?_
      apply ws_try (n := 3) (i := 6) (j := 5) (yOpt yInt) rfl
      · intro D9
        refine wx_ixOS ?_
        refine wx_var rfl ?_
        refine ⟨_, rfl, ?_⟩
        refine wx_tup (K := K) ?_
        refine wa_cons ?_
        refine wx_var rfl ?_
        refine ⟨_, rfl, ?_⟩
        refine wa_cons ?_
        refine wx_var rfl ?_
        refine ⟨_, rfl, ?_⟩
        refine wa_nil ?_
        refine ⟨[yStr _law_x, yStr _law_y], rfl, show 2 ≤ 1000 by decide, ?_⟩
        refine ⟨_, rfl, ?_⟩
        refine rc_call _ _ _ ⟨_law_actual, (_law_x, _law_y), rfl, rfl⟩ ⟨rfl, rfl, trivial⟩ (show List.Nodup ([] : List Nat) by decide) rfl (.inl rfl) fun r1 _ => ?_
        exact ⟨rfl, _, rfl, rfl⟩
      · show 5 < 7
        decide
      · show 6 < 7
        decide
      · intro _law_told
        refine ws_seq ?_
        refine ws_ctx (Γ' := [.val ((yO_Differences P w K A) _law_actual), .val ((yDn K P w (yPr K yStr yStr) yInt) _law_sums_here), .val (yBl _law_there), .val (yStr _law_x), .val (yStr _law_y), .val ((yOpt yInt) _law_told), .any]) rfl ?_
        refine ws_if ?_
        refine wt_not ?_
        refine wt_b ?_
        refine wx_var rfl ?_
        refine ⟨_, rfl, ?_⟩
        refine ⟨_, _, rfl, ?_, ?_⟩
        · refine ws_ctx (Γ' := [.val ((yO_Differences P w K A) _law_actual), .val ((yDn K P w (yPr K yStr yStr) yInt) _law_sums_here), .val (yBl _law_there), .val (yStr _law_x), .val (yStr _law_y), .val ((yOpt yInt) _law_told), .any]) rfl ?_
          refine ws_ret ?_
          refine wx_bl ?_
          exact ⟨_, rfl, rfl, (by first | trivial | exact ⟨rfl, trivial⟩ | exact ⟨rfl, rfl, trivial⟩)⟩
        · refine ws_next ?_
          refine ws_seq ?_
          refine ws_ctx (Γ' := [.val ((yO_Differences P w K A) _law_actual), .val ((yDn K P w (yPr K yStr yStr) yInt) _law_sums_here), .val (yBl _law_there), .val (yStr _law_x), .val (yStr _law_y), .val ((yOpt yInt) _law_told), .any]) rfl ?_
          refine ws_if ?_
          refine wt_b ?_
          refine wx_nnin (K := K) (t := (yPr K yStr yStr)) (u := yInt) ?_
          refine wx_tup (K := K) ?_
          refine wa_cons ?_
          refine wx_var rfl ?_
          refine ⟨_, rfl, ?_⟩
          refine wa_cons ?_
          refine wx_var rfl ?_
          refine ⟨_, rfl, ?_⟩
          refine wa_nil ?_
          refine ⟨[yStr _law_x, yStr _law_y], rfl, show 2 ≤ 1000 by decide, ?_⟩
          refine ⟨(_law_x, _law_y), rfl, ?_⟩
          refine wx_var rfl ?_
          refine ⟨_law_sums_here, rfl, ?_⟩
          refine ⟨_, rfl, ?_⟩
          refine ⟨_, _, rfl, ?_, ?_⟩
          · refine ws_ctx (Γ' := [.val ((yO_Differences P w K A) _law_actual), .val ((yDn K P w (yPr K yStr yStr) yInt) _law_sums_here), .val (yBl _law_there), .val (yStr _law_x), .val (yStr _law_y), .val ((yOpt yInt) _law_told), .any]) rfl ?_
            refine ws_ret ?_
            refine wx_op ?_
            refine wx_var rfl ?_
            refine ⟨_, rfl, ?_⟩
            refine wx_non ?_
            refine ⟨_, rfl, ?_⟩
            refine rx_isN (t := yInt) (x := _law_told) (by walk_at "nonn") ?_
            exact ⟨_, rfl, rfl, (by first | trivial | exact ⟨rfl, trivial⟩ | exact ⟨rfl, rfl, trivial⟩)⟩
          · refine ws_next ?_
            refine ws_ctx (Γ' := [.val ((yO_Differences P w K A) _law_actual), .val ((yDn K P w (yPr K yStr yStr) yInt) _law_sums_here), .val (yBl _law_there), .val (yStr _law_x), .val (yStr _law_y), .val ((yOpt yInt) _law_told), .any]) rfl ?_
            refine ws_ret ?_
            refine wx_andVM (μ := Unit) ?_
            refine wx_call ?_
            refine wa_cons ?_
            refine wx_var rfl ?_
            refine ⟨_, rfl, ?_⟩
            refine wa_nil ?_
            refine rc_callP _ _ (f__law_is_int _law_told) ⟨_law_told, rfl, rfl⟩ ⟨rfl, trivial⟩ (show List.Nodup ([] : List Nat) by decide) rfl ?_
            refine ⟨_, rfl, (fun s1 : Unit => [.val ((yO_Differences P w K A) _law_actual), .val ((yDn K P w (yPr K yStr yStr) yInt) _law_sums_here), .val (yBl _law_there), .val (yStr _law_x), .val (yStr _law_y), .val ((yOpt yInt) _law_told), .any]), _, (), _, rfl, by walk_at "subc", fun _ => ?_, fun r4 => ?_⟩
            · refine wx_op ?_
              refine wx_unw yInt ?_
              refine wx_var rfl ?_
              refine ⟨_law_told, _, rfl, rfl, fun r2 => ?_⟩
              refine ⟨_, rfl, ?_⟩
              refine wx_nget (K := K) (t := (yPr K yStr yStr)) (u := yInt) ?_
              refine wx_var rfl ?_
              refine ⟨_law_sums_here, rfl, ?_⟩
              refine wx_tup (K := K) ?_
              refine wa_cons ?_
              refine wx_var rfl ?_
              refine ⟨_, rfl, ?_⟩
              refine wa_cons ?_
              refine wx_var rfl ?_
              refine ⟨_, rfl, ?_⟩
              refine wa_nil ?_
              refine ⟨[yStr _law_x, yStr _law_y], rfl, show 2 ≤ 1000 by decide, ?_⟩
              refine ⟨(_law_x, _law_y), _, rfl, rfl, fun r3 => ?_⟩
              refine ⟨_, rfl, ?_⟩
              refine rx_eq ?_
              exact ⟨_, _, rfl, rfl, by walk_at "subc"⟩
            exact ⟨_, rfl, rfl, (by first | trivial | exact ⟨rfl, trivial⟩ | exact ⟨rfl, rfl, trivial⟩)⟩
      · exact T.x_NoSolution_NoSolution
      · intro a9
        refine ws_ret ?_
        refine wx_andV true ?_
        refine wx_notV ?_
        refine wx_var rfl ?_
        refine ⟨_, rfl, ?_⟩
        refine ⟨_, rfl, fun _ => ?_, ?_⟩
        · refine wx_cb ?_
          refine wa_cons ?_
          refine wx_var rfl ?_
          refine ⟨_, rfl, ?_⟩
          refine wa_cons ?_
          refine wx_c (pRef (A 2)) (fun _ _ => rfl) ?_
          refine ⟨_, rfl, ?_⟩
          refine wa_nil ?_
          refine rc_is0 (b := true) T.k_NoSolution_ShadowError ?_
          exact ⟨rfl, rfl, rfl⟩
        exact ⟨_, rfl, rfl, (by first | trivial | exact ⟨rfl, trivial⟩ | exact ⟨rfl, rfl, trivial⟩)⟩
def pre__law_follows_right (P : Program) (w : World) (K : PySem.W.Frag) (A : Nat → Addr) : List Ar → Cl → Prop := fun as d => ∃ (_law_actual : ((List Str) × (Option (List ((Str × Str) × Int))) × (List (Str × Str × Int)))) (_law_sums_here : (List ((Str × Str) × Int))) (_law_there : Bool) (_law_x : Str) (_law_y : Str), as = [.val ((yO_Differences P w K A) _law_actual), .val ((yDn K P w (yPr K yStr yStr) yInt) _law_sums_here), .val (yBl _law_there), .val (yStr _law_x), .val (yStr _law_y)] ∧ d = ⟨(Bool), f__law_follows_right _law_actual _law_sums_here _law_there _law_x _law_y, fun r => .val (yBl r), fun r => []⟩
theorem ok__law_follows_right (T : Txt K mg A D) : FnOk P w K mg base CX0 2 (A 19) (D 19) ["_law_actual", "_law_sums_here", "_law_there", "_law_x", "_law_y"] (spM A (pre__law_follows_right P w K A)) := by
  refine T.F__law_follows_right.ok sc__law_follows_right (fun vs H Q E h => ?_) (fun cdv A' outer s H vs Q E hr h => ?_)
  · exact spM_len h fun as d hp => by obtain ⟨_law_actual, _law_sums_here, _law_there, _law_x, _law_y, rfl, rfl⟩ := hp; rfl
  · have hu := hu_of hr
    have G_Differences___contains__ : FnOk P w K mg base CX0 1 (A 1146) (D 1146) ["self", "constraint"] (spM A (pre_Differences___contains__ P w K A)) := ok_Differences___contains__ T
    refine ⟨_, (pss_cons (ps_if (pt_not (pt_val (pv 2)))
        (pss_one (ps_ret (pe_and (pe_cmpR (op_inO T.M_Differences___contains__ G_Differences___contains__ (hr.mono (by decide)) T.b_Differences___contains__ pass0) (pe_tup (pa_cons (pv 3) (pa_cons (pv 4) (pa_cons (pe_un un_neg pe_int) pa_nil)))) (pv 0) rfl) (pe_one (pe_cmpR (op_inO T.M_Differences___contains__ G_Differences___contains__ (hr.mono (by decide)) T.b_Differences___contains__ pass0) (pe_tup (pa_cons (pv 3) (pa_cons (pv 4) (pa_cons pe_int pa_nil)))) (pv 0) rfl)))))
        pss_nil)
      (pss_cons (ps_if (pt_cmp (pc_dninN (K := K) (G := KyOf K (yPr K yStr yStr)) (VN P w) rfl rfl rfl (kyOf_ok (by decide)) lv7 hr.units (pe_tup (pa_cons (pv 3) (pa_cons (pv 4) pa_nil))) (pv 1)))
        (pss_one (ps_ret (pe_cmpR (op_ninO T.M_Differences___contains__ G_Differences___contains__ (hr.mono (by decide)) T.b_Differences___contains__ pass0) (pe_tup (pa_cons (pv 3) (pa_cons (pv 4) (pa_cons pe_int pa_nil)))) (pv 0) rfl)))
        pss_nil)
      (pss_one (ps_ret (pe_and (pe_cmpR (op_inO T.M_Differences___contains__ G_Differences___contains__ (hr.mono (by decide)) T.b_Differences___contains__ pass0) (pe_tup (pa_cons (pv 3) (pa_cons (pv 4) (pa_cons (pe_dgetN (K := K) (G := KyOf K (yPr K yStr yStr)) (VN P w) rfl rfl rfl (kyOf_ok (by decide)) lv7 hr.units (pv 1) (pe_tup (pa_cons (pv 3) (pa_cons (pv 4) pa_nil))) (fun _ _ => rfl)) pa_nil)))) (pv 0) rfl) (pe_one (pe_cmpR (op_ninO T.M_Differences___contains__ G_Differences___contains__ (hr.mono (by decide)) T.b_Differences___contains__ pass0) (pe_tup (pa_cons (pv 3) (pa_cons (pv 4) (pa_cons (pe_op op_sub (pe_dgetN (K := K) (G := KyOf K (yPr K yStr yStr)) (VN P w) rfl rfl rfl (kyOf_ok (by decide)) lv7 hr.units (pv 1) (pe_tup (pa_cons (pv 3) (pa_cons (pv 4) pa_nil))) (fun _ _ => rfl)) pe_int) pa_nil)))) (pv 0) rfl))))))), ?_⟩
    refine fn_run0 h (fun as d hp => ?_) fun as d hp => ?_
    · obtain ⟨_law_actual, _law_sums_here, _law_there, _law_x, _law_y, rfl, rfl⟩ := hp; simp
    · obtain ⟨_law_actual, _law_sums_here, _law_there, _law_x, _law_y, rfl, rfl⟩ := hp
      refine ⟨_, (show f__law_follows_right _law_actual _law_sums_here _law_there _law_x _law_y = Res.noerr _ from rfl), ?_⟩
      refine ws_seq ?_
      refine ws_ctx (Γ' := [.val ((yO_Differences P w K A) _law_actual), .val ((yDn K P w (yPr K yStr yStr) yInt) _law_sums_here), .val (yBl _law_there), .val (yStr _law_x), .val (yStr _law_y)]) rfl ?_
      refine ws_if ?_
      refine wt_not ?_
      refine wt_b ?_
      refine wx_var rfl ?_
      refine ⟨_, rfl, ?_⟩
      refine ⟨_, _, rfl, ?_, ?_⟩
      · refine ws_ctx (Γ' := [.val ((yO_Differences P w K A) _law_actual), .val ((yDn K P w (yPr K yStr yStr) yInt) _law_sums_here), .val (yBl _law_there), .val (yStr _law_x), .val (yStr _law_y)]) rfl ?_
        refine ws_ret ?_
        refine wx_andVM (μ := Unit) ?_
        refine wx_op ?_
        refine wx_tup (K := K) ?_
        refine wa_cons ?_
        refine wx_var rfl ?_
        refine ⟨_, rfl, ?_⟩
        refine wa_cons ?_
        refine wx_var rfl ?_
        refine ⟨_, rfl, ?_⟩
        refine wa_cons ?_
        refine wx_un ?_
        refine wx_int ?_
        refine ⟨_, rfl, ?_⟩
        refine ru_neg ?_
        refine ⟨_, rfl, ?_⟩
        refine wa_nil ?_
        refine ⟨[yStr _law_x, yStr _law_y, yInt (-(99 : Int))], rfl, show 3 ≤ 1000 by decide, ?_⟩
        refine ⟨_, rfl, ?_⟩
        refine wx_var rfl ?_
        refine ⟨_, rfl, ?_⟩
        refine rx_inO ?_
        refine rc_call _ _ _ ⟨_law_actual, (_law_x, _law_y, (-(99 : Int))), rfl, rfl⟩ ⟨rfl, rfl, trivial⟩ (show List.Nodup ([] : List Nat) by decide) rfl (.inr fun _ z => noerr_ne z) fun r1 _ => ?_
        refine ⟨_, rfl, ?_⟩
        refine ⟨_, rfl, (fun s1 : Unit => [.val ((yO_Differences P w K A) _law_actual), .val ((yDn K P w (yPr K yStr yStr) yInt) _law_sums_here), .val (yBl _law_there), .val (yStr _law_x), .val (yStr _law_y)]), _, (), _, rfl, by walk_at "subc", fun _ => ?_, fun r3 => ?_⟩
        · refine wx_op ?_
          refine wx_tup (K := K) ?_
          refine wa_cons ?_
          refine wx_var rfl ?_
          refine ⟨_, rfl, ?_⟩
          refine wa_cons ?_
          refine wx_var rfl ?_
          refine ⟨_, rfl, ?_⟩
          refine wa_cons ?_
          refine wx_int ?_
          refine ⟨_, rfl, ?_⟩
          refine wa_nil ?_
          refine ⟨[yStr _law_x, yStr _law_y, yInt (0 : Int)], rfl, show 3 ≤ 1000 by decide, ?_⟩
          refine ⟨_, rfl, ?_⟩
          refine wx_var rfl ?_
          refine ⟨_, rfl, ?_⟩
          refine rx_inO ?_
          refine rc_call _ _ _ ⟨_law_actual, (_law_x, _law_y, (0 : Int)), rfl, rfl⟩ ⟨rfl, rfl, trivial⟩ (show List.Nodup ([] : List Nat) by decide) rfl (.inr fun _ z => noerr_ne z) fun r2 _ => ?_
          refine ⟨_, rfl, ?_⟩
          exact ⟨_, _, rfl, rfl, by walk_at "subc"⟩
        exact ⟨_, rfl, rfl, (by first | trivial | exact ⟨rfl, trivial⟩ | exact ⟨rfl, rfl, trivial⟩)⟩
      · refine ws_next ?_
        refine ws_seq ?_
        refine ws_ctx (Γ' := [.val ((yO_Differences P w K A) _law_actual), .val ((yDn K P w (yPr K yStr yStr) yInt) _law_sums_here), .val (yBl _law_there), .val (yStr _law_x), .val (yStr _law_y)]) rfl ?_
        refine ws_if ?_
        refine wt_b ?_
        refine wx_nnin (K := K) (t := (yPr K yStr yStr)) (u := yInt) ?_
        refine wx_tup (K := K) ?_
        refine wa_cons ?_
        refine wx_var rfl ?_
        refine ⟨_, rfl, ?_⟩
        refine wa_cons ?_
        refine wx_var rfl ?_
        refine ⟨_, rfl, ?_⟩
        refine wa_nil ?_
        refine ⟨[yStr _law_x, yStr _law_y], rfl, show 2 ≤ 1000 by decide, ?_⟩
        refine ⟨(_law_x, _law_y), rfl, ?_⟩
        refine wx_var rfl ?_
        refine ⟨_law_sums_here, rfl, ?_⟩
        refine ⟨_, rfl, ?_⟩
        refine ⟨_, _, rfl, ?_, ?_⟩
        · refine ws_ctx (Γ' := [.val ((yO_Differences P w K A) _law_actual), .val ((yDn K P w (yPr K yStr yStr) yInt) _law_sums_here), .val (yBl _law_there), .val (yStr _law_x), .val (yStr _law_y)]) rfl ?_
          refine ws_ret ?_
          refine wx_op ?_
          refine wx_tup (K := K) ?_
          refine wa_cons ?_
          refine wx_var rfl ?_
          refine ⟨_, rfl, ?_⟩
          refine wa_cons ?_
          refine wx_var rfl ?_
          refine ⟨_, rfl, ?_⟩
          refine wa_cons ?_
          refine wx_int ?_
          refine ⟨_, rfl, ?_⟩
          refine wa_nil ?_
          refine ⟨[yStr _law_x, yStr _law_y, yInt (99 : Int)], rfl, show 3 ≤ 1000 by decide, ?_⟩
          refine ⟨_, rfl, ?_⟩
          refine wx_var rfl ?_
          refine ⟨_, rfl, ?_⟩
          refine rx_inO ?_
          refine rc_call _ _ _ ⟨_law_actual, (_law_x, _law_y, (99 : Int)), rfl, rfl⟩ ⟨rfl, rfl, trivial⟩ (show List.Nodup ([] : List Nat) by decide) rfl (.inr fun _ z => noerr_ne z) fun r4 _ => ?_
          refine ⟨_, rfl, ?_⟩
          exact ⟨_, rfl, rfl, (by first | trivial | exact ⟨rfl, trivial⟩ | exact ⟨rfl, rfl, trivial⟩)⟩
        · refine ws_next ?_
          refine ws_ctx (Γ' := [.val ((yO_Differences P w K A) _law_actual), .val ((yDn K P w (yPr K yStr yStr) yInt) _law_sums_here), .val (yBl _law_there), .val (yStr _law_x), .val (yStr _law_y)]) rfl ?_
          refine ws_ret ?_
          refine wx_andVM (μ := Unit) ?_
          refine wx_op ?_
          refine wx_tup (K := K) ?_
          refine wa_cons ?_
          refine wx_var rfl ?_
          refine ⟨_, rfl, ?_⟩
          refine wa_cons ?_
          refine wx_var rfl ?_
          refine ⟨_, rfl, ?_⟩
          refine wa_cons ?_
          refine wx_nget (K := K) (t := (yPr K yStr yStr)) (u := yInt) ?_
          refine wx_var rfl ?_
          refine ⟨_law_sums_here, rfl, ?_⟩
          refine wx_tup (K := K) ?_
          refine wa_cons ?_
          refine wx_var rfl ?_
          refine ⟨_, rfl, ?_⟩
          refine wa_cons ?_
          refine wx_var rfl ?_
          refine ⟨_, rfl, ?_⟩
          refine wa_nil ?_
          refine ⟨[yStr _law_x, yStr _law_y], rfl, show 2 ≤ 1000 by decide, ?_⟩
          refine ⟨(_law_x, _law_y), _, rfl, rfl, fun r5 => ?_⟩
          refine ⟨_, rfl, ?_⟩
          refine wa_nil ?_
          refine ⟨[yStr _law_x, yStr _law_y, yInt r5], rfl, show 3 ≤ 1000 by decide, ?_⟩
          refine ⟨_, rfl, ?_⟩
          refine wx_var rfl ?_
          refine ⟨_, rfl, ?_⟩
          refine rx_inO ?_
          refine rc_call _ _ _ ⟨_law_actual, (_law_x, _law_y, r5), rfl, rfl⟩ ⟨rfl, rfl, trivial⟩ (show List.Nodup ([] : List Nat) by decide) rfl (.inr fun _ z => noerr_ne z) fun r6 _ => ?_
          refine ⟨_, rfl, ?_⟩
          refine ⟨_, rfl, (fun s2 : Unit => [.val ((yO_Differences P w K A) _law_actual), .val ((yDn K P w (yPr K yStr yStr) yInt) _law_sums_here), .val (yBl _law_there), .val (yStr _law_x), .val (yStr _law_y)]), _, (), _, rfl, by walk_at "subc", fun _ => ?_, fun r9 => ?_⟩
          · refine wx_op ?_
            refine wx_tup (K := K) ?_
            refine wa_cons ?_
            refine wx_var rfl ?_
            refine ⟨_, rfl, ?_⟩
            refine wa_cons ?_
            refine wx_var rfl ?_
            refine ⟨_, rfl, ?_⟩
            refine wa_cons ?_
            refine wx_op ?_
            refine wx_nget (K := K) (t := (yPr K yStr yStr)) (u := yInt) ?_
            refine wx_var rfl ?_
            refine ⟨_law_sums_here, rfl, ?_⟩
            refine wx_tup (K := K) ?_
            refine wa_cons ?_
            refine wx_var rfl ?_
            refine ⟨_, rfl, ?_⟩
            refine wa_cons ?_
            refine wx_var rfl ?_
            refine ⟨_, rfl, ?_⟩
            refine wa_nil ?_
            refine ⟨[yStr _law_x, yStr _law_y], rfl, show 2 ≤ 1000 by decide, ?_⟩
            refine ⟨(_law_x, _law_y), _, rfl, rfl, fun r7 => ?_⟩
            refine ⟨_, rfl, ?_⟩
            refine wx_int ?_
            refine ⟨_, rfl, ?_⟩
            refine rx_ari rfl ?_
            refine ⟨_, rfl, ?_⟩
            refine wa_nil ?_
            refine ⟨[yStr _law_x, yStr _law_y, yInt (r7 - (1 : Int))], rfl, show 3 ≤ 1000 by decide, ?_⟩
            refine ⟨_, rfl, ?_⟩
            refine wx_var rfl ?_
            refine ⟨_, rfl, ?_⟩
            refine rx_inO ?_
            refine rc_call _ _ _ ⟨_law_actual, (_law_x, _law_y, (r7 - (1 : Int))), rfl, rfl⟩ ⟨rfl, rfl, trivial⟩ (show List.Nodup ([] : List Nat) by decide) rfl (.inr fun _ z => noerr_ne z) fun r8 _ => ?_
            refine ⟨_, rfl, ?_⟩
            exact ⟨_, _, rfl, rfl, by walk_at "subc"⟩
          exact ⟨_, rfl, rfl, (by first | trivial | exact ⟨rfl, trivial⟩ | exact ⟨rfl, rfl, trivial⟩)⟩
def pre__law_object_right (P : Program) (w : World) (K : PySem.W.Frag) (A : Nat → Addr) : List Ar → Cl → Prop := fun as d => ∃ (_law_theory_here : ((List Str) × (List (Str × Str × Int)))) (_law_actual : ((List Str) × (Option (List ((Str × Str) × Int))) × (List (Str × Str × Int)))), as = [.val ((yPr K (yTup K yStr) (yTup K (yTr K yStr yStr yInt))) _law_theory_here), .val ((yO_Differences P w K A) _law_actual)] ∧ d = ⟨(Bool), f__law_object_right _law_theory_here _law_actual, fun r => .val (yBl r), fun r => []⟩
theorem ok__law_object_right (T : Txt K mg A D) : FnOk P w K mg base CX0 4 (A 20) (D 20) ["_law_theory_here", "_law_actual"] (spM A (pre__law_object_right P w K A)) := by
  refine T.F__law_object_right.ok sc__law_object_right (fun vs H Q E h => ?_) (fun cdv A' outer s H vs Q E hr h => ?_)
  · exact spM_len h fun as d hp => by obtain ⟨_law_theory_here, _law_actual, rfl, rfl⟩ := hp; rfl
  · have hu := hu_of hr
    have G__law_sums : FnOk P w K mg base CX0 1 (A 15) (D 15) ["_law_theory_here"] (spM A (pre__law_sums P w K A)) := ok__law_sums T
    have G__law_satisfiable : FnOk P w K mg base CX0 1 (A 16) (D 16) ["_law_theory_here", "_law_sums_here"] (spM A (pre__law_satisfiable P w K A)) := ok__law_satisfiable T
    have G_Differences_satisfiable : FnOk P w K mg base CX0 1 (A 1141) (D 1141) ["self"] (spM A (pre_Differences_satisfiable P w K A)) := ok_Differences_satisfiable T
    have G_Differences___len__ : FnOk P w K mg base CX0 1 (A 1144) (D 1144) ["self"] (spM A (pre_Differences___len__ P w K A)) := ok_Differences___len__ T
    have G_Differences___iter__ : FnSz P w K mg base CX0 1 (A 1145) (D 1145) ["self"] (spIt K (tpF "constraints" (A 7))) := ok_Differences___iter__ T
    have G__law_difference_right : FnOk P w K mg base CX0 3 (A 18) (D 18) ["_law_actual", "_law_sums_here", "_law_there", "_law_x", "_law_y"] (spM A (pre__law_difference_right P w K A)) := ok__law_difference_right T
    have G__law_follows_right : FnOk P w K mg base CX0 2 (A 19) (D 19) ["_law_actual", "_law_sums_here", "_law_there", "_law_x", "_law_y"] (spM A (pre__law_follows_right P w K A)) := ok__law_follows_right T
    refine ⟨_, (pss_cons (ps_set (i := 2) sc__law_object_right.nd rfl (Or.inr rfl) (pe_call G__law_sums (hr.mono (by decide)) rfl T.g__law_sums T.F__law_sums.kp T.b__law_sums .nil pass0 (pa_cons (pv 0) pa_nil)))
      (pss_cons (ps_set (i := 3) sc__law_object_right.nd rfl (Or.inl rfl) (pe_call G__law_satisfiable (hr.mono (by decide)) rfl T.g__law_satisfiable T.F__law_satisfiable.kp T.b__law_satisfiable .nil pass0 (pa_cons (pv 0) (pa_cons (pv 2) pa_nil))))
      (pss_cons (ps_if (PW.pt (pw_or (pt_not (pt_val (pe_callB (id := "isinstance") (cK_isi (K := K) rfl) (by rfl) T.z_isinstance (by decide +kernel) (pa_cons (pe_prop (pv 1) T.cl_Differences T.P_Differences_satisfiable G_Differences_satisfiable (hr.mono (by decide)) T.b_Differences_satisfiable .nil pass0 (by rfl)) (pa_cons (pe_bltn (v := .ty "bool") (u := .type "bool") (by rfl) T.z_bool (by decide +kernel) rfl) pa_nil))))) (pw_or1 (pt_cmpR op_ne (pe_prop (pv 1) T.cl_Differences T.P_Differences_satisfiable G_Differences_satisfiable (hr.mono (by decide)) T.b_Differences_satisfiable .nil pass0 (by rfl)) (pv 3) (nomark _)))))
        (pss_one (ps_ret pe_bl))
        pss_nil)
      (pss_cons (ps_set (i := 4) sc__law_object_right.nd rfl (Or.inl rfl) (pe_lst (pa_cons (pe_tup (pa_cons pe_str (pa_cons pe_str (pa_cons (pe_un un_neg pe_int) pa_nil)))) pa_nil)))
      (pss_cons (ps_if (pt_val (pv 3))
        (pss_one (ps_setLc (i := 4) (own := [("_law_pair", 8)]) (g := gName 8)  rfl sc__law_object_right.nd rfl rfl (sw_true rfl rfl rfl (by decide +kernel))  (iK_list (K := K) rfl (pe_callB (id := "sorted") (cW_sorted (K := K) rfl hr.units) (by rfl) T.z_sorted (by decide +kernel) (pa_cons (pe_callTy (T := "list") (call_listN (VN P w) rfl rfl rfl) (by rfl) T.z_list (by decide +kernel) (pa_cons (pv 2) pa_nil)) pa_nil))) (blkOk_by (N := N__law_object_right) (sc := defScope (topS 20)) (by decide +kernel)) (fun _ _ _ _ _ => (pg_name (i := 8) sc__law_object_right.nd rfl (Or.inl rfl))) (fun _ _ _ _ _ => (pts_one (pt_cmpR op_ne (pe_ix (xK_tup (K := K) rfl) (pv 8) pe_int (fun _ _ => rfl)) (pe_ix (xK_tup (K := K) rfl) (pv 8) pe_int (fun _ _ => rfl)) (nomark _)))) (fun _ _ _ _ _ => (pe_tup (pa_cons (pe_ix (xK_tup (K := K) rfl) (pv 8) pe_int (fun _ _ => rfl)) (pa_cons (pe_ix (xK_tup (K := K) rfl) (pv 8) pe_int (fun _ _ => rfl)) (pa_cons (pe_dgetN (K := K) (G := KyOf K (yPr K yStr yStr)) (VN P w) rfl rfl rfl (kyOf_ok (by decide)) lv7 hr.units (pv 2) (pv 8) (fun _ _ => rfl)) pa_nil)))))))
        pss_nil)
      (pss_cons (ps_if (PW.pt (pw_or (pt_cmpR (oP_ne (K := K) rfl hr.units) (pe_lc (own := [("_law_constraint_here", 9)]) (g := gName 9) (tt := tYes) rfl sc__law_object_right.nd (pi_own (K := K) rfl T.M_Differences___iter__ G_Differences___iter__ (hr.mono (by decide)) T.b_Differences___iter__ (pv 1)) (blkOk_by (N := N__law_object_right) (sc := defScope (topS 20)) (by decide +kernel)) (fun _ _ _ _ _ => (pg_name (i := 9) sc__law_object_right.nd rfl (Or.inl rfl))) (fun _ _ _ _ _ => pts_nil) (fun _ _ _ _ _ => (pv 9))) (pv 4) (nomark _)) (pw_or1 (pt_cmpR op_ne (pe_callB (id := "len") (call_lenO T.M_Differences___len__ G_Differences___len__ (hr.mono (by decide)) T.b_Differences___len__ pass0) (by rfl) T.z_len (by decide +kernel) (pa_cons (pv 1) pa_nil)) (pe_callB (id := "len") (cK_len (K := K) rfl) (by rfl) T.z_len (by decide +kernel) (pa_cons (pv 4) pa_nil)) (nomark _)))))
        (pss_one (ps_ret pe_bl))
        pss_nil)
      (pss_cons (ps_set (i := 5) sc__law_object_right.nd rfl (Or.inl rfl) (pe_op (op_catS (K := K) rfl) (pe_lst (pa_cons pe_str pa_nil)) (pe_callTy (T := "list") (cK_list (K := K) rfl) (by rfl) T.z_list (by decide +kernel) (pa_cons (pe_ix (xK_tup (K := K) rfl) (pv 0) pe_int (fun _ _ => rfl)) pa_nil))))
      (pss_cons (ps_for PassesOwn.never rfl (iK_list (K := K) rfl (pv 5)) (pg_name (i := 6) sc__law_object_right.nd rfl (Or.inl rfl))
        (pss_one (ps_for PassesOwn.never rfl (iK_list (K := K) rfl (pv 5)) (pg_name (i := 7) sc__law_object_right.nd rfl (Or.inl rfl))
          (pss_cons (ps_if (pt_not (pt_val (pe_call G__law_difference_right (hr.mono (by decide)) rfl T.g__law_difference_right T.F__law_difference_right.kp T.b__law_difference_right .nil pass0 (pa_cons (pv 1) (pa_cons (pv 2) (pa_cons (pv 3) (pa_cons (pv 6) (pa_cons (pv 7) pa_nil))))))))
            (pss_one (ps_ret pe_bl))
            pss_nil)
          (pss_one (ps_if (PW.pt (pw_and (PW.pt (pw_or (pt_cmpR op_ne (pv 6) (pv 7) (nomark _)) (pw_or1 (pt_cmpR op_eq (pv 6) pe_str (nomark _))))) (pw_and1 (pt_not (pt_val (pe_call G__law_follows_right (hr.mono (by decide)) rfl T.g__law_follows_right T.F__law_follows_right.kp T.b__law_follows_right .nil pass0 (pa_cons (pv 1) (pa_cons (pv 2) (pa_cons (pv 3) (pa_cons (pv 6) (pa_cons (pv 7) pa_nil)))))))))))
            (pss_one (ps_ret pe_bl))
            pss_nil))))))
      (pss_one (ps_ret pe_bl)))))))))), ?_⟩
    refine fn_run0 h (fun as d hp => ?_) fun as d hp => ?_
    · obtain ⟨_law_theory_here, _law_actual, rfl, rfl⟩ := hp; simp
    · obtain ⟨_law_theory_here, _law_actual, rfl, rfl⟩ := hp
      refine ⟨_, (show f__law_object_right _law_theory_here _law_actual = Res.noerr _ from rfl), ?_⟩
      refine ws_seq ?_
      refine ws_ctx (Γ' := [.val ((yPr K (yTup K yStr) (yTup K (yTr K yStr yStr yInt))) _law_theory_here), .val ((yO_Differences P w K A) _law_actual), .any, .any, .any, .any, .any, .any, .any, .any]) rfl ?_
      refine ws_setL (yDn K P w (yPr K yStr yStr) yInt) ?_
      refine wx_fz ?_
      refine wx_call ?_
      refine wa_cons ?_
      refine wx_var rfl ?_
      refine ⟨_, rfl, ?_⟩
      refine wa_nil ?_
      refine rc_call _ _ _ ⟨_law_theory_here, rfl, rfl⟩ ⟨rfl, trivial⟩ (show List.Nodup ([] : List Nat) by decide) rfl (.inr fun _ z => by first | exact noerr_ne z | exact (nomatch z)) fun r1 _ => ?_
      refine ⟨_, rfl, ?_⟩
      refine ⟨r1, _, rfl, show 2 < 10 by decide, rfl, fun _law_sums_here => ?_⟩
      refine ws_seq ?_
      refine ws_ctx (Γ' := [.val ((yPr K (yTup K yStr) (yTup K (yTr K yStr yStr yInt))) _law_theory_here), .val ((yO_Differences P w K A) _law_actual), .val ((yDn K P w (yPr K yStr yStr) yInt) _law_sums_here), .any, .any, .any, .any, .any, .any, .any]) rfl ?_
      refine ws_setL yBl ?_
      refine wx_call ?_
      refine wa_cons ?_
      refine wx_var rfl ?_
      refine ⟨_, rfl, ?_⟩
      refine wa_cons ?_
      refine wx_var rfl ?_
      refine ⟨_, rfl, ?_⟩
      refine wa_nil ?_
      refine rc_call _ _ _ ⟨_law_theory_here, _law_sums_here, rfl, rfl⟩ ⟨rfl, rfl, trivial⟩ (show List.Nodup ([] : List Nat) by decide) rfl (.inr fun _ z => by first | exact noerr_ne z | exact (nomatch z)) fun r2 _ => ?_
      refine ⟨r2, _, rfl, show 3 < 10 by decide, rfl, fun _law_there => ?_⟩
      refine ws_seq ?_
      refine ws_ctx (Γ' := [.val ((yPr K (yTup K yStr) (yTup K (yTr K yStr yStr yInt))) _law_theory_here), .val ((yO_Differences P w K A) _law_actual), .val ((yDn K P w (yPr K yStr yStr) yInt) _law_sums_here), .val (yBl _law_there), .any, .any, .any, .any, .any, .any]) rfl ?_
      refine ws_if ?_
      refine wt_or (!decide ((f_Differences_satisfiable _law_actual) = _law_there)) ?_
      refine wt_not ?_
      refine wt_b ?_
      refine wx_cb ?_
      refine wa_cons ?_
      refine wx_prop ?_
      refine wx_var rfl ?_
      refine ⟨_, rfl, ?_⟩
      refine rc_callP _ _ (f_Differences_satisfiable _law_actual) ⟨_law_actual, rfl, rfl⟩ ⟨rfl, trivial⟩ (show List.Nodup ([] : List Nat) by decide) rfl ?_
      refine ⟨_, rfl, ?_⟩
      refine wa_cons ?_
      refine wx_c (yCls "bool") (fun _ _ => rfl) ?_
      refine ⟨_, rfl, ?_⟩
      refine wa_nil ?_
      refine rc_isi (K := K) (t := yBl) (x := (f_Differences_satisfiable _law_actual)) (b := true) rfl ?_
      refine ⟨_, rfl, ?_⟩
      refine ⟨fun _ => ?_, ?_⟩
      · refine wt_b ?_
        refine wx_op ?_
        refine wx_prop ?_
        refine wx_var rfl ?_
        refine ⟨_, rfl, ?_⟩
        refine rc_callP _ _ (f_Differences_satisfiable _law_actual) ⟨_law_actual, rfl, rfl⟩ ⟨rfl, trivial⟩ (show List.Nodup ([] : List Nat) by decide) rfl ?_
        refine ⟨_, rfl, ?_⟩
        refine wx_var rfl ?_
        refine ⟨_, rfl, ?_⟩
        refine rx_ne ?_
        refine ⟨_, rfl, ?_⟩
        exact ⟨rfl, rfl, rfl⟩
      refine ⟨_, _, rfl, ?_, ?_⟩
      · refine ws_ctx (Γ' := [.val ((yPr K (yTup K yStr) (yTup K (yTr K yStr yStr yInt))) _law_theory_here), .val ((yO_Differences P w K A) _law_actual), .val ((yDn K P w (yPr K yStr yStr) yInt) _law_sums_here), .val (yBl _law_there), .any, .any, .any, .any, .any, .any]) rfl ?_
        refine ws_ret ?_
        refine wx_bl ?_
        exact ⟨_, rfl, rfl, (by first | trivial | exact ⟨rfl, trivial⟩ | exact ⟨rfl, rfl, trivial⟩)⟩
      · refine ws_next ?_
        refine ws_seq ?_
        refine ws_ctx (Γ' := [.val ((yPr K (yTup K yStr) (yTup K (yTr K yStr yStr yInt))) _law_theory_here), .val ((yO_Differences P w K A) _law_actual), .val ((yDn K P w (yPr K yStr yStr) yInt) _law_sums_here), .val (yBl _law_there), .any, .any, .any, .any, .any, .any]) rfl ?_
        refine ws_setL (yLst K (yTr K yStr yStr yInt)) ?_
        refine wx_fz ?_
        refine wx_lst (K := K) ?_
        refine wa_cons ?_
        refine wx_tup (K := K) ?_
        refine wa_cons ?_
        refine wx_str ?_
        refine ⟨_, rfl, ?_⟩
        refine wa_cons ?_
        refine wx_str ?_
        refine ⟨_, rfl, ?_⟩
        refine wa_cons ?_
        refine wx_un ?_
        refine wx_int ?_
        refine ⟨_, rfl, ?_⟩
        refine ru_neg ?_
        refine ⟨_, rfl, ?_⟩
        refine wa_nil ?_
        refine ⟨[yStr ("" : Str), yStr ("" : Str), yInt (-(1 : Int))], rfl, show 3 ≤ 1000 by decide, ?_⟩
        refine ⟨_, rfl, ?_⟩
        refine wa_nil ?_
        refine ⟨[(yTr K yStr yStr yInt) (("" : Str), ("" : Str), (-(1 : Int)))], rfl, show 1 ≤ 1000 by decide, ?_⟩
        refine ⟨_, rfl, ?_⟩
        refine ⟨([(("" : Str), ("" : Str), (-(1 : Int)))] : List (Str × Str × Int)), _, rfl, show 4 < 10 by decide, rfl, fun _law_expected => ?_⟩
        refine ws_seq ?_
        refine ws_ctx (Γ' := [.val ((yPr K (yTup K yStr) (yTup K (yTr K yStr yStr yInt))) _law_theory_here), .val ((yO_Differences P w K A) _law_actual), .val ((yDn K P w (yPr K yStr yStr) yInt) _law_sums_here), .val (yBl _law_there), .val ((yLst K (yTr K yStr yStr yInt)) _law_expected), .any, .any, .any, .any, .any]) rfl ?_
        refine ws_blk (fun s1 : ((List (Str × Str × Int))) => [.val ((yPr K (yTup K yStr) (yTup K (yTr K yStr yStr yInt))) _law_theory_here), .val ((yO_Differences P w K A) _law_actual), .val ((yDn K P w (yPr K yStr yStr) yInt) _law_sums_here), .val (yBl _law_there), .val ((yLst K (yTr K yStr yStr yInt)) s1), .any, .any, .any, .any, .any]) rfl ?_ ?_
        · refine ws_if ?_
          refine wt_b ?_
          refine wx_var rfl ?_
          refine ⟨_, rfl, ?_⟩
          refine ⟨_, _, rfl, ?_, ?_⟩
          · refine ws_ctx (Γ' := [.val ((yPr K (yTup K yStr) (yTup K (yTr K yStr yStr yInt))) _law_theory_here), .val ((yO_Differences P w K A) _law_actual), .val ((yDn K P w (yPr K yStr yStr) yInt) _law_sums_here), .val (yBl _law_there), .val ((yLst K (yTr K yStr yStr yInt)) _law_expected), .any, .any, .any, .any, .any]) rfl ?_
            refine ws_setL (yLst K (yTr K yStr yStr yInt)) ?_
            refine wx_fz ?_
            refine wx_lcU (K := K) (yPr K yStr yStr) (yTr K yStr yStr yInt) (gk_name (by decide)) ?_
            refine wi_list ?_
            refine wx_fz ?_
            refine wx_cb ?_
            refine wa_cons ?_
            refine wx_fz ?_
            refine wx_cb ?_
            refine wa_cons ?_
            refine wx_var rfl ?_
            refine ⟨_, rfl, ?_⟩
            refine wa_nil ?_
            refine rc_nlist ?_
            refine ⟨_, rfl, ?_⟩
            refine ⟨_, rfl, ?_⟩
            refine wa_nil ?_
            refine rc_sortQ (K := K) (t := (yPr K yStr yStr)) (Nat.le_of_ble_eq_true rfl) rfl fun r3 => ?_
            refine ⟨_, rfl, ?_⟩
            refine ⟨_, rfl, ?_⟩
            refine ⟨_, r3, _, rfl, rfl, fun q1 => ?_, fun r5 => ?_⟩
            · refine wg_ctx (Γ' := [.val ((yPr K (yTup K yStr) (yTup K (yTr K yStr yStr yInt))) _law_theory_here), .val ((yO_Differences P w K A) _law_actual), .val ((yDn K P w (yPr K yStr yStr) yInt) _law_sums_here), .val (yBl _law_there), .val ((yLst K (yTr K yStr yStr yInt)) _law_expected), .any, .any, .any, .any, .any]) rfl ?_
              refine wg_name (show 8 < 10 by decide) ?_
              refine wt_b ?_
              refine wx_op ?_
              refine wx_op ?_
              refine wx_var rfl ?_
              refine ⟨_, rfl, ?_⟩
              refine wx_int ?_
              refine ⟨_, rfl, ?_⟩
              refine rx_ixT rfl ?_
              refine ⟨_, rfl, ?_⟩
              refine wx_op ?_
              refine wx_var rfl ?_
              refine ⟨_, rfl, ?_⟩
              refine wx_int ?_
              refine ⟨_, rfl, ?_⟩
              refine rx_ixT rfl ?_
              refine ⟨_, rfl, ?_⟩
              refine rx_ne ?_
              refine ⟨_, rfl, ?_⟩
              refine ⟨_, rfl, ?_⟩
              refine wx_tup (K := K) ?_
              refine wa_cons ?_
              refine wx_op ?_
              refine wx_var rfl ?_
              refine ⟨_, rfl, ?_⟩
              refine wx_int ?_
              refine ⟨_, rfl, ?_⟩
              refine rx_ixT rfl ?_
              refine ⟨_, rfl, ?_⟩
              refine wa_cons ?_
              refine wx_op ?_
              refine wx_var rfl ?_
              refine ⟨_, rfl, ?_⟩
              refine wx_int ?_
              refine ⟨_, rfl, ?_⟩
              refine rx_ixT rfl ?_
              refine ⟨_, rfl, ?_⟩
              refine wa_cons ?_
              refine wx_nget (K := K) (t := (yPr K yStr yStr)) (u := yInt) ?_
              refine wx_var rfl ?_
              refine ⟨_law_sums_here, rfl, ?_⟩
              refine wx_var rfl ?_
              refine ⟨q1, _, rfl, rfl, fun r4 => ?_⟩
              refine ⟨_, rfl, ?_⟩
              refine wa_nil ?_
              refine ⟨[yStr q1.1, yStr q1.2, yInt r4], rfl, show 3 ≤ 1000 by decide, ?_⟩
              exact ⟨_, rfl, rfl⟩
            refine ⟨_, rfl, ?_⟩
            refine ⟨r5, _, rfl, show 4 < 10 by decide, rfl, fun _law_expected => ?_⟩
            exact ⟨_, rfl, by walk_at "subc"⟩
          · refine ws_next ?_
            exact ⟨_, rfl, by walk_at "subc"⟩
        intro s1
        refine ws_seq ?_
        refine ws_ctx (Γ' := [.val ((yPr K (yTup K yStr) (yTup K (yTr K yStr yStr yInt))) _law_theory_here), .val ((yO_Differences P w K A) _law_actual), .val ((yDn K P w (yPr K yStr yStr) yInt) _law_sums_here), .val (yBl _law_there), .val ((yLst K (yTr K yStr yStr yInt)) s1), .any, .any, .any, .any, .any]) rfl ?_
        refine ws_if ?_
        refine wt_orM (μ := Unit) ?_
        refine wt_b ?_
        refine wx_op ?_
        refine wx_fz ?_
        refine wx_lcA (K := K) (yTr K yStr yStr yInt) (yTr K yStr yStr yInt) (fun q2 => q2) (gk_name (by decide)) ?_
        refine wi_own (f := "constraints") ?_
        refine wx_var rfl ?_
        refine ⟨_, _, rfl, rfl, ?_⟩
        refine ⟨_law_actual.2.2, rfl, fun q2 => ?_, ?_⟩
        · refine wg_ctx (Γ' := [.val ((yPr K (yTup K yStr) (yTup K (yTr K yStr yStr yInt))) _law_theory_here), .val ((yO_Differences P w K A) _law_actual), .val ((yDn K P w (yPr K yStr yStr) yInt) _law_sums_here), .val (yBl _law_there), .val ((yLst K (yTr K yStr yStr yInt)) s1), .any, .any, .any, .any, .any]) rfl ?_
          refine wg_name (show 9 < 10 by decide) ?_
          refine wx_var rfl ?_
          exact rfl
        refine ⟨_, rfl, ?_⟩
        refine ⟨_, rfl, ?_⟩
        refine wx_var rfl ?_
        refine ⟨_, rfl, ?_⟩
        refine rx_neD (K := K) (t := (yLst K (yTr K yStr yStr yInt))) (x := (_law_actual.2.2.map fun q2 => q2)) (y := s1) (Nat.le_of_ble_eq_true rfl) ?_
        refine ⟨_, rfl, ?_⟩
        refine ⟨(fun s2 : Unit => [.val ((yPr K (yTup K yStr) (yTup K (yTr K yStr yStr yInt))) _law_theory_here), .val ((yO_Differences P w K A) _law_actual), .val ((yDn K P w (yPr K yStr yStr) yInt) _law_sums_here), .val (yBl _law_there), .val ((yLst K (yTr K yStr yStr yInt)) s1), .any, .any, .any, .any, .any]), _, (), _, rfl, by walk_at "subc", fun _ => ?_, fun r7 => ?_⟩
        · refine wt_b ?_
          refine wx_op ?_
          refine wx_cb ?_
          refine wa_cons ?_
          refine wx_var rfl ?_
          refine ⟨_, rfl, ?_⟩
          refine wa_nil ?_
          refine rc_lenO ?_
          refine rc_callP _ _ (f_Differences___len__ _law_actual) ⟨_law_actual, rfl, rfl⟩ ⟨rfl, trivial⟩ (show List.Nodup ([] : List Nat) by decide) rfl ?_
          refine ⟨_, _, rfl, rfl, ?_⟩
          refine ⟨_, rfl, ?_⟩
          refine wx_cb ?_
          refine wa_cons ?_
          refine wx_var rfl ?_
          refine ⟨_, rfl, ?_⟩
          refine wa_nil ?_
          refine rc_lenSq (pLst K) ?_
          rw [List.length_map]
          refine ⟨_, rfl, ?_⟩
          refine rx_ne ?_
          refine ⟨_, rfl, ?_⟩
          exact ⟨_, rfl, by walk_at "subc"⟩
        refine ⟨_, _, rfl, ?_, ?_⟩
        · refine ws_ctx (Γ' := [.val ((yPr K (yTup K yStr) (yTup K (yTr K yStr yStr yInt))) _law_theory_here), .val ((yO_Differences P w K A) _law_actual), .val ((yDn K P w (yPr K yStr yStr) yInt) _law_sums_here), .val (yBl _law_there), .val ((yLst K (yTr K yStr yStr yInt)) s1), .any, .any, .any, .any, .any]) rfl ?_
          refine ws_ret ?_
          refine wx_bl ?_
          exact ⟨_, rfl, rfl, (by first | trivial | exact ⟨rfl, trivial⟩ | exact ⟨rfl, rfl, trivial⟩)⟩
        · refine ws_next ?_
          refine ws_seq ?_
          refine ws_ctx (Γ' := [.val ((yPr K (yTup K yStr) (yTup K (yTr K yStr yStr yInt))) _law_theory_here), .val ((yO_Differences P w K A) _law_actual), .val ((yDn K P w (yPr K yStr yStr) yInt) _law_sums_here), .val (yBl _law_there), .val ((yLst K (yTr K yStr yStr yInt)) s1), .any, .any, .any, .any, .any]) rfl ?_
          refine ws_setL (yLst K yStr) ?_
          refine wx_fz ?_
          refine wx_op ?_
          refine wx_fz ?_
          refine wx_lst (K := K) ?_
          refine wa_cons ?_
          refine wx_str ?_
          refine ⟨_, rfl, ?_⟩
          refine wa_nil ?_
          refine ⟨[yStr ("" : Str)], rfl, show 1 ≤ 1000 by decide, ?_⟩
          refine ⟨_, rfl, ?_⟩
          refine ⟨_, rfl, ?_⟩
          refine wx_fz ?_
          refine wx_cb ?_
          refine wa_cons ?_
          refine wx_op ?_
          refine wx_var rfl ?_
          refine ⟨_, rfl, ?_⟩
          refine wx_int ?_
          refine ⟨_, rfl, ?_⟩
          refine rx_ixT rfl ?_
          refine ⟨_, rfl, ?_⟩
          refine wa_nil ?_
          refine rc_list (pTup K) ?_
          refine ⟨_, rfl, ?_⟩
          refine ⟨_, rfl, ?_⟩
          refine rx_catL (t := yStr) (xs := ([("" : Str)] : List Str)) (ys := _law_theory_here.1) rfl ?_
          refine ⟨_, rfl, ?_⟩
          refine ⟨(([("" : Str)] : List Str) ++ _law_theory_here.1), _, rfl, show 5 < 10 by decide, rfl, fun _law_ends => ?_⟩
          refine ws_seq ?_
          refine ws_ctx (Γ' := [.val ((yPr K (yTup K yStr) (yTup K (yTr K yStr yStr yInt))) _law_theory_here), .val ((yO_Differences P w K A) _law_actual), .val ((yDn K P w (yPr K yStr yStr) yInt) _law_sums_here), .val (yBl _law_there), .val ((yLst K (yTr K yStr yStr yInt)) s1), .val ((yLst K yStr) _law_ends), .any, .any, .any, .any]) rfl ?_
          refine ws_forF (μ := Unit) (τ := (Bool)) yStr ?_
          refine wi_list ?_
          refine wx_var rfl ?_
          refine ⟨_, rfl, ?_⟩
          refine ⟨_, (fun s3 : Unit => [.val ((yPr K (yTup K yStr) (yTup K (yTr K yStr yStr yInt))) _law_theory_here), .val ((yO_Differences P w K A) _law_actual), .val ((yDn K P w (yPr K yStr yStr) yInt) _law_sums_here), .val (yBl _law_there), .val ((yLst K (yTr K yStr yStr yInt)) s1), .val ((yLst K yStr) _law_ends), .any, .any, .any, .any]), _law_ends, _, _, _, rfl, rfl, by walk_at "subc", fun s3 q3 => ?_, fun s3 => ?_⟩
          · refine wg_name (show 6 < 10 by decide) ?_
            refine ws_ctx (Γ' := [.val ((yPr K (yTup K yStr) (yTup K (yTr K yStr yStr yInt))) _law_theory_here), .val ((yO_Differences P w K A) _law_actual), .val ((yDn K P w (yPr K yStr yStr) yInt) _law_sums_here), .val (yBl _law_there), .val ((yLst K (yTr K yStr yStr yInt)) s1), .val ((yLst K yStr) _law_ends), .val (yStr q3), .any, .any, .any]) rfl ?_
            refine ws_forF (μ := Unit) (τ := (Bool)) yStr ?_
            refine wi_list ?_
            refine wx_var rfl ?_
            refine ⟨_, rfl, ?_⟩
            refine ⟨_, (fun s4 : Unit => [.val ((yPr K (yTup K yStr) (yTup K (yTr K yStr yStr yInt))) _law_theory_here), .val ((yO_Differences P w K A) _law_actual), .val ((yDn K P w (yPr K yStr yStr) yInt) _law_sums_here), .val (yBl _law_there), .val ((yLst K (yTr K yStr yStr yInt)) s1), .val ((yLst K yStr) _law_ends), .val (yStr q3), .any, .any, .any]), _law_ends, _, _, _, rfl, rfl, by walk_at "subc", fun s4 q4 => ?_, fun s4 => ?_⟩
            · refine wg_name (show 7 < 10 by decide) ?_
              refine ws_seq ?_
              refine ws_ctx (Γ' := [.val ((yPr K (yTup K yStr) (yTup K (yTr K yStr yStr yInt))) _law_theory_here), .val ((yO_Differences P w K A) _law_actual), .val ((yDn K P w (yPr K yStr yStr) yInt) _law_sums_here), .val (yBl _law_there), .val ((yLst K (yTr K yStr yStr yInt)) s1), .val ((yLst K yStr) _law_ends), .val (yStr q3), .val (yStr q4), .any, .any]) rfl ?_
              refine ws_if ?_
              refine wt_not ?_
              refine wt_b ?_
              refine wx_call ?_
              refine wa_cons ?_
              refine wx_var rfl ?_
              refine ⟨_, rfl, ?_⟩
              refine wa_cons ?_
              refine wx_var rfl ?_
              refine ⟨_, rfl, ?_⟩
              refine wa_cons ?_
              refine wx_var rfl ?_
              refine ⟨_, rfl, ?_⟩
              refine wa_cons ?_
              refine wx_var rfl ?_
              refine ⟨_, rfl, ?_⟩
              refine wa_cons ?_
              refine wx_var rfl ?_
              refine ⟨_, rfl, ?_⟩
              refine wa_nil ?_
              refine rc_call _ _ _ ⟨_law_actual, _law_sums_here, _law_there, q3, q4, rfl, rfl⟩ ⟨rfl, rfl, rfl, rfl, rfl, trivial⟩ (show List.Nodup ([] : List Nat) by decide) rfl (.inr fun _ z => by first | exact noerr_ne z | exact (nomatch z)) fun r9 _ => ?_
              refine ⟨_, rfl, ?_⟩
              refine ⟨_, _, rfl, ?_, ?_⟩
              · refine ws_ctx (Γ' := [.val ((yPr K (yTup K yStr) (yTup K (yTr K yStr yStr yInt))) _law_theory_here), .val ((yO_Differences P w K A) _law_actual), .val ((yDn K P w (yPr K yStr yStr) yInt) _law_sums_here), .val (yBl _law_there), .val ((yLst K (yTr K yStr yStr yInt)) s1), .val ((yLst K yStr) _law_ends), .val (yStr q3), .val (yStr q4), .any, .any]) rfl ?_
                refine ws_ret ?_
                refine wx_bl ?_
                refine ⟨_, rfl, ?_⟩
                refine ⟨_, rfl, ?_⟩
                exact ⟨_, rfl, rfl, (by first | trivial | exact ⟨rfl, trivial⟩ | exact ⟨rfl, rfl, trivial⟩)⟩
              · refine ws_next ?_
                refine ws_ctx (Γ' := [.val ((yPr K (yTup K yStr) (yTup K (yTr K yStr yStr yInt))) _law_theory_here), .val ((yO_Differences P w K A) _law_actual), .val ((yDn K P w (yPr K yStr yStr) yInt) _law_sums_here), .val (yBl _law_there), .val ((yLst K (yTr K yStr yStr yInt)) s1), .val ((yLst K yStr) _law_ends), .val (yStr q3), .val (yStr q4), .any, .any]) rfl ?_
                refine ws_if ?_
                refine wt_andM (μ := Unit) ?_
                refine wt_or (decide (q3 = ("" : Str))) ?_
                refine wt_b ?_
                refine wx_op ?_
                refine wx_var rfl ?_
                refine ⟨_, rfl, ?_⟩
                refine wx_var rfl ?_
                refine ⟨_, rfl, ?_⟩
                refine rx_ne ?_
                refine ⟨_, rfl, ?_⟩
                refine ⟨fun _ => ?_, ?_⟩
                · refine wt_b ?_
                  refine wx_op ?_
                  refine wx_var rfl ?_
                  refine ⟨_, rfl, ?_⟩
                  refine wx_str ?_
                  refine ⟨_, rfl, ?_⟩
                  refine rx_eq ?_
                  refine ⟨_, rfl, ?_⟩
                  exact ⟨rfl, rfl, rfl⟩
                refine ⟨(fun s5 : Unit => [.val ((yPr K (yTup K yStr) (yTup K (yTr K yStr yStr yInt))) _law_theory_here), .val ((yO_Differences P w K A) _law_actual), .val ((yDn K P w (yPr K yStr yStr) yInt) _law_sums_here), .val (yBl _law_there), .val ((yLst K (yTr K yStr yStr yInt)) s1), .val ((yLst K yStr) _law_ends), .val (yStr q3), .val (yStr q4), .any, .any]), _, (), _, rfl, by walk_at "subc", fun _ => ?_, fun r11 => ?_⟩
                · refine wt_not ?_
                  refine wt_b ?_
                  refine wx_call ?_
                  refine wa_cons ?_
                  refine wx_var rfl ?_
                  refine ⟨_, rfl, ?_⟩
                  refine wa_cons ?_
                  refine wx_var rfl ?_
                  refine ⟨_, rfl, ?_⟩
                  refine wa_cons ?_
                  refine wx_var rfl ?_
                  refine ⟨_, rfl, ?_⟩
                  refine wa_cons ?_
                  refine wx_var rfl ?_
                  refine ⟨_, rfl, ?_⟩
                  refine wa_cons ?_
                  refine wx_var rfl ?_
                  refine ⟨_, rfl, ?_⟩
                  refine wa_nil ?_
                  refine rc_call _ _ _ ⟨_law_actual, _law_sums_here, _law_there, q3, q4, rfl, rfl⟩ ⟨rfl, rfl, rfl, rfl, rfl, trivial⟩ (show List.Nodup ([] : List Nat) by decide) rfl (.inr fun _ z => by first | exact noerr_ne z | exact (nomatch z)) fun r10 _ => ?_
                  refine ⟨_, rfl, ?_⟩
                  exact ⟨_, rfl, by walk_at "subc"⟩
                refine ⟨_, _, rfl, ?_, ?_⟩
                · refine ws_ctx (Γ' := [.val ((yPr K (yTup K yStr) (yTup K (yTr K yStr yStr yInt))) _law_theory_here), .val ((yO_Differences P w K A) _law_actual), .val ((yDn K P w (yPr K yStr yStr) yInt) _law_sums_here), .val (yBl _law_there), .val ((yLst K (yTr K yStr yStr yInt)) s1), .val ((yLst K yStr) _law_ends), .val (yStr q3), .val (yStr q4), .any, .any]) rfl ?_
                  refine ws_ret ?_
                  refine wx_bl ?_
                  refine ⟨_, rfl, ?_⟩
                  refine ⟨_, rfl, ?_⟩
                  exact ⟨_, rfl, rfl, (by first | trivial | exact ⟨rfl, trivial⟩ | exact ⟨rfl, rfl, trivial⟩)⟩
                · refine ws_next ?_
                  exact ⟨_, rfl, by walk_at "subc"⟩
            exact ⟨_, rfl, by walk_at "subc"⟩
          refine ws_ctx (Γ' := [.val ((yPr K (yTup K yStr) (yTup K (yTr K yStr yStr yInt))) _law_theory_here), .val ((yO_Differences P w K A) _law_actual), .val ((yDn K P w (yPr K yStr yStr) yInt) _law_sums_here), .val (yBl _law_there), .val ((yLst K (yTr K yStr yStr yInt)) s1), .val ((yLst K yStr) _law_ends), .any, .any, .any, .any]) rfl ?_
          refine ws_ret ?_
          refine wx_bl ?_
          exact ⟨_, rfl, rfl, (by first | trivial | exact ⟨rfl, trivial⟩ | exact ⟨rfl, rfl, trivial⟩)⟩
def pre_law (K : PySem.W.Frag) (A : Nat → Addr) : List Ar → Cl → Prop := fun as d => ∃ (_law_script : (List Int)), as = [.val ((yLst K yInt) _law_script)] ∧ d = ⟨(Bool), f_law _law_script, fun r => .val (yBl r), fun r => []⟩
theorem ok_lawM (T : Txt K mg A D) : FnOk P w K mg base CX0 5 (A 21) (D 21) ["_law_script"] (spM A (pre_law K A)) := by
  refine T.F_law.ok sc_law (fun vs H Q E h => ?_) (fun cdv A' outer s H vs Q E hr h => ?_)
  · exact spM_len h fun as d hp => by obtain ⟨_law_script, rfl, rfl⟩ := hp; rfl
  · have hu := hu_of hr
    have G__law_source : FnOk P w K mg base CX0 1 (A 9) (D 9) ["_law_script", "_law_k"] (spM A (pre__law_source K A)) := ok__law_source T
    have G__law_theory : FnOk P w K mg base CX0 4 (A 14) (D 14) ["_law_source_here"] (spM A (pre__law_theory K A)) := ok__law_theory T
    have G__law_draw : FnOk P w K mg base CX0 1 (A 10) (D 10) ["_law_source_here", "_law_limit"] (spM A (pre__law_draw K A)) := ok__law_draw T
    have G_Differences___init__ : FnOk P w K mg base CX0 2 (A 1140) (D 1140) ["self", "theory"] (spM A (pre_Differences___init__ P w K A)) := ok_Differences___init__ T
    have G_Differences___add__ : FnOk P w K mg base CX0 4 (A 1148) (D 1148) ["self", "constraint"] (spM A (pre_Differences___add__ P w K A)) := ok_Differences___add__ T
    have G__law_object_right : FnOk P w K mg base CX0 4 (A 20) (D 20) ["_law_theory_here", "_law_actual"] (spM A (pre__law_object_right P w K A)) := ok__law_object_right T
    have G__law_constraint : FnOk P w K mg base CX0 3 (A 13) (D 13) ["_law_source_here", "_law_names"] (spM A (pre__law_constraint K A)) := ok__law_constraint T
    have G_Differences_satisfiable : FnOk P w K mg base CX0 1 (A 1141) (D 1141) ["self"] (spM A (pre_Differences_satisfiable P w K A)) := ok_Differences_satisfiable T
    refine ⟨_, (pss_cons (ps_set (i := 1) sc_law.nd rfl (Or.inl rfl) (pe_call G__law_source (hr.mono (by decide)) rfl T.g__law_source T.F__law_source.kp T.b__law_source .nil pass0 (pa_cons (pv 0) (pa_cons pe_int pa_nil))))
      (pss_cons (ps_set (i := 2) sc_law.nd rfl (Or.inl rfl) (pe_call G__law_theory (hr.mono (by decide)) rfl T.g__law_theory T.F__law_theory.kp T.b__law_theory .nil pass0 (pa_cons (pv 1) pa_nil)))
      (pss_cons (ps_set (i := 3) sc_law.nd rfl (Or.inl rfl) (pe_call G__law_draw (hr.mono (by decide)) rfl T.g__law_draw T.F__law_draw.kp T.b__law_draw .nil pass0 (pa_cons (pv 1) (pa_cons (pe_op op_add (pe_callB (id := "len") (cK_len (K := K) rfl) (by rfl) T.z_len (by decide +kernel) (pa_cons (pe_ix (xK_tup (K := K) rfl) (pv 2) pe_int (fun _ _ => rfl)) pa_nil)) pe_int) pa_nil))))
      (pss_cons (ps_if (pt_cmpR op_eq (pe_call G__law_draw (hr.mono (by decide)) rfl T.g__law_draw T.F__law_draw.kp T.b__law_draw .nil pass0 (pa_cons (pv 1) (pa_cons pe_int pa_nil))) pe_int (nomark _))
        (pss_one (ps_set (i := 3) sc_law.nd rfl (Or.inl rfl) pe_int))
        pss_nil)
      (pss_cons (ps_set (i := 4) sc_law.nd rfl (Or.inl rfl) (pe_tup (pa_cons (pe_ix (xK_tup (K := K) rfl) (pv 2) pe_int (fun _ _ => rfl)) (pa_cons (pe_slice (sK_tupA (K := K) rfl) (pe_ix (xK_tup (K := K) rfl) (pv 2) pe_int (fun _ _ => rfl)) po_none (po_some (pv 3))) pa_nil))))
      (pss_cons (ps_set (i := 5) sc_law.nd rfl (Or.inl rfl) (pe_lst (pa_cons (pe_make T.mk_Differences G_Differences___init__ (hr.mono (by decide)) rfl T.g_Differences T.b_Differences___init__ .nil pass0 (pa_cons (pv 4) pa_nil)) pa_nil)))
      (pss_cons (ps_set (i := 6) sc_law.nd rfl (Or.inl rfl) (pe_lst (pa_cons (pv 4) pa_nil)))
      (pss_cons (ps_for PassesOwn.never rfl (pi_range2 rfl T.z_range (pa_cons (pv 3) (pa_cons (pe_callB (id := "len") (cK_len (K := K) rfl) (by rfl) T.z_len (by decide +kernel) (pa_cons (pe_ix (xK_tup (K := K) rfl) (pv 2) pe_int (fun _ _ => rfl)) pa_nil)) pa_nil))) (pg_name (i := 7) sc_law.nd rfl (Or.inl rfl))
        (pss_cons (ps_expr (pe_bm PySem.F.plainAttrs_list PySem.F.slot_list_append PySem.F.type_list_append mt_append (pv 5) (pa_cons (pe_opT T.B_Differences_Add_tuple T.M_Differences___add__ G_Differences___add__ (hr.mono (by decide)) T.b_Differences___add__ (pas0 pass0) (pe_ix (xK_list (K := K) rfl) (pv 5) (pe_op op_sub (pe_callB (id := "len") (cK_len (K := K) rfl) (by rfl) T.z_len (by decide +kernel) (pa_cons (pv 5) pa_nil)) pe_int) (fun _ _ => rfl)) (pe_ix (xK_tup (K := K) rfl) (pe_ix (xK_tup (K := K) rfl) (pv 2) pe_int (fun _ _ => rfl)) (pv 7) (fun _ _ => rfl))) pa_nil)))
        (pss_cons (ps_set (i := 4) sc_law.nd rfl (Or.inl rfl) (pe_tup (pa_cons (pe_ix (xK_tup (K := K) rfl) (pv 2) pe_int (fun _ _ => rfl)) (pa_cons (pe_slice (sK_tupA (K := K) rfl) (pe_ix (xK_tup (K := K) rfl) (pv 2) pe_int (fun _ _ => rfl)) po_none (po_some (pe_op op_add (pv 7) pe_int))) pa_nil))))
        (pss_one (ps_expr (pe_bm PySem.F.plainAttrs_list PySem.F.slot_list_append PySem.F.type_list_append mt_append (pv 6) (pa_cons (pv 4) pa_nil)))))))
      (pss_cons (ps_set (i := 8) sc_law.nd rfl (Or.inl rfl) (pe_call G__law_draw (hr.mono (by decide)) rfl T.g__law_draw T.F__law_draw.kp T.b__law_draw .nil pass0 (pa_cons (pe_call G__law_source (hr.mono (by decide)) rfl T.g__law_source T.F__law_source.kp T.b__law_source .nil pass0 (pa_cons (pv 0) (pa_cons pe_int pa_nil))) (pa_cons (pe_callB (id := "len") (cK_len (K := K) rfl) (by rfl) T.z_len (by decide +kernel) (pa_cons (pv 5) pa_nil)) pa_nil))))
      (pss_cons (ps_for PassesOwn.never rfl (iK_list (K := K) rfl (pe_op (op_catS (K := K) rfl) (pe_listRg rfl (by rfl) T.z_list (prg_1 (by rfl) T.z_range (pe_callB (id := "len") (cK_len (K := K) rfl) (by rfl) T.z_len (by decide +kernel) (pa_cons (pv 5) pa_nil)))) (pe_lst (pa_cons (pv 8) pa_nil)))) (pg_name (i := 7) sc_law.nd rfl (Or.inl rfl))
        (pss_one (ps_if (pt_not (pt_val (pe_call G__law_object_right (hr.mono (by decide)) rfl T.g__law_object_right T.F__law_object_right.kp T.b__law_object_right .nil pass0 (pa_cons (pe_ix (xK_list (K := K) rfl) (pv 6) (pv 7) (fun _ _ => rfl)) (pa_cons (pe_ix (xK_list (K := K) rfl) (pv 5) (pv 7) (fun _ _ => rfl)) pa_nil)))))
          (pss_one (ps_ret pe_bl))
          pss_nil)))
      (pss_cons (ps_set (i := 9) sc_law.nd rfl (Or.inl rfl) (pe_opT T.B_Differences_Add_tuple T.M_Differences___add__ G_Differences___add__ (hr.mono (by decide)) T.b_Differences___add__ (pas0 pass0) (pe_ix (xK_list (K := K) rfl) (pv 5) (pv 8) (fun _ _ => rfl)) (pe_call G__law_constraint (hr.mono (by decide)) rfl T.g__law_constraint T.F__law_constraint.kp T.b__law_constraint .nil pass0 (pa_cons (pe_call G__law_source (hr.mono (by decide)) rfl T.g__law_source T.F__law_source.kp T.b__law_source .nil pass0 (pa_cons (pv 0) (pa_cons pe_int pa_nil))) (pa_cons (pe_ix (xK_tup (K := K) rfl) (pv 2) pe_int (fun _ _ => rfl)) pa_nil)))))
      (pss_one (ps_ret (pe_and (pe_cmpR (oP_in (K := K) rfl hr.units) (pe_prop (pv 9) T.cl_Differences T.P_Differences_satisfiable G_Differences_satisfiable (hr.mono (by decide)) T.b_Differences_satisfiable .nil pass0 (by rfl)) (pe_lst (pa_cons pe_bl (pa_cons pe_bl pa_nil))) rfl) (pe_one (pe_call G__law_object_right (hr.mono (by decide)) rfl T.g__law_object_right T.F__law_object_right.kp T.b__law_object_right .nil pass0 (pa_cons (pe_ix (xK_list (K := K) rfl) (pv 6) (pv 8) (fun _ _ => rfl)) (pa_cons (pe_ix (xK_list (K := K) rfl) (pv 5) (pv 8) (fun _ _ => rfl)) pa_nil)))))))))))))))))), ?_⟩
    refine fn_run0 h (fun as d hp => ?_) fun as d hp => ?_
    · obtain ⟨_law_script, rfl, rfl⟩ := hp; simp
    · obtain ⟨_law_script, rfl, rfl⟩ := hp
      refine ⟨_, (show f_law _law_script = Res.noerr _ from rfl), ?_⟩
      refine ws_seq ?_
      refine ws_ctx (Γ' := [.val ((yLst K yInt) _law_script), .any, .any, .any, .any, .any, .any, .any, .any, .any]) rfl ?_
      refine ws_setO (wLst K yInt) ?_
      refine wx_call ?_
      refine wa_cons ?_
      refine wx_var rfl ?_
      refine ⟨_, rfl, ?_⟩
      refine wa_cons ?_
      refine wx_int ?_
      refine ⟨_, rfl, ?_⟩
      refine wa_nil ?_
      refine rc_call _ _ _ ⟨_law_script, (0 : Int), rfl, rfl⟩ ⟨rfl, rfl, trivial⟩ (show List.Nodup ([] : List Nat) by decide) rfl (.inr fun _ z => by first | exact noerr_ne z | exact (nomatch z)) fun r1 _ => ?_
      refine ⟨r1, _, rfl, show 1 < 10 by decide, rfl, fun _law_source_here => ?_⟩
      refine ws_seq ?_
      refine ws_ctx (Γ' := [.val ((yLst K yInt) _law_script), .own false ((wLst K yInt) _law_source_here), .any, .any, .any, .any, .any, .any, .any, .any]) rfl ?_
      refine ws_setL (yPr K (yTup K yStr) (yTup K (yTr K yStr yStr yInt))) ?_
      refine wx_call ?_
      refine wa_io rfl ?_
      refine wa_nil ?_
      refine rc_call _ _ _ ⟨_law_source_here, rfl, rfl⟩ ⟨⟨_, rfl⟩, trivial⟩ (show List.Nodup ([1] : List Nat) by decide) rfl (.inr fun _ z => by first | exact noerr_ne z | exact (nomatch z)) fun r2 _ => ?_
      refine ⟨r2.1, _, rfl, show 2 < 10 by decide, rfl, fun _law_theory_here => ?_⟩
      refine ws_seq ?_
      refine ws_ctx (Γ' := [.val ((yLst K yInt) _law_script), .own false ((wLst K yInt) r2.2), .val ((yPr K (yTup K yStr) (yTup K (yTr K yStr yStr yInt))) _law_theory_here), .any, .any, .any, .any, .any, .any, .any]) rfl ?_
      refine ws_setL yInt ?_
      refine wx_call ?_
      refine wa_io rfl ?_
      refine wa_cons ?_
      refine wx_op ?_
      refine wx_cb ?_
      refine wa_cons ?_
      refine wx_op ?_
      refine wx_var rfl ?_
      refine ⟨_, rfl, ?_⟩
      refine wx_int ?_
      refine ⟨_, rfl, ?_⟩
      refine rx_ixT rfl ?_
      refine ⟨_, rfl, ?_⟩
      refine wa_nil ?_
      refine rc_lenSq (pTup K) ?_
      rw [List.length_map]
      refine ⟨_, rfl, ?_⟩
      refine wx_int ?_
      refine ⟨_, rfl, ?_⟩
      refine rx_ari rfl ?_
      refine ⟨_, rfl, ?_⟩
      refine wa_nil ?_
      refine rc_call _ _ _ ⟨r2.2, ((_law_theory_here.2.length : Int) + (1 : Int)), rfl, rfl⟩ ⟨⟨_, rfl⟩, rfl, trivial⟩ (show List.Nodup ([1] : List Nat) by decide) rfl (.inr fun _ z => by first | exact noerr_ne z | exact (nomatch z)) fun r3 _ => ?_
      refine ⟨r3.1, _, rfl, show 3 < 10 by decide, rfl, fun _law_at_once => ?_⟩
      refine ws_seq ?_
      refine ws_ctx (Γ' := [.val ((yLst K yInt) _law_script), .own false ((wLst K yInt) r3.2), .val ((yPr K (yTup K yStr) (yTup K (yTr K yStr yStr yInt))) _law_theory_here), .val (yInt _law_at_once), .any, .any, .any, .any, .any, .any]) rfl ?_
      refine ws_blk (fun s1 : ((List Int) × Int) => [.val ((yLst K yInt) _law_script), .own false ((wLst K yInt) s1.1), .val ((yPr K (yTup K yStr) (yTup K (yTr K yStr yStr yInt))) _law_theory_here), .val (yInt s1.2), .any, .any, .any, .any, .any, .any]) rfl ?_ ?_
      · refine ws_if ?_
        refine wt_b ?_
        refine wx_op ?_
        refine wx_call ?_
        refine wa_io rfl ?_
        refine wa_cons ?_
        refine wx_int ?_
        refine ⟨_, rfl, ?_⟩
        refine wa_nil ?_
        refine rc_call _ _ _ ⟨r3.2, (2 : Int), rfl, rfl⟩ ⟨⟨_, rfl⟩, rfl, trivial⟩ (show List.Nodup ([1] : List Nat) by decide) rfl (.inr fun _ z => by first | exact noerr_ne z | exact (nomatch z)) fun r4 _ => ?_
        refine ⟨_, rfl, ?_⟩
        refine wx_int ?_
        refine ⟨_, rfl, ?_⟩
        refine rx_eq ?_
        refine ⟨_, rfl, ?_⟩
        refine ⟨_, _, rfl, ?_, ?_⟩
        · refine ws_ctx (Γ' := [.val ((yLst K yInt) _law_script), .own false ((wLst K yInt) r4.2), .val ((yPr K (yTup K yStr) (yTup K (yTr K yStr yStr yInt))) _law_theory_here), .val (yInt _law_at_once), .any, .any, .any, .any, .any, .any]) rfl ?_
          refine ws_setL yInt ?_
          refine wx_int ?_
          refine ⟨(0 : Int), _, rfl, show 3 < 10 by decide, rfl, fun _law_at_once => ?_⟩
          exact ⟨_, rfl, by walk_at "subc"⟩
        · refine ws_next ?_
          exact ⟨_, rfl, by walk_at "subc"⟩
      intro s1
      refine ws_seq ?_
      refine ws_ctx (Γ' := [.val ((yLst K yInt) _law_script), .own false ((wLst K yInt) s1.1), .val ((yPr K (yTup K yStr) (yTup K (yTr K yStr yStr yInt))) _law_theory_here), .val (yInt s1.2), .any, .any, .any, .any, .any, .any]) rfl ?_
      refine ws_setL (yPr K (yTup K yStr) (yTup K (yTr K yStr yStr yInt))) ?_
      refine wx_tup (K := K) ?_
      refine wa_cons ?_
      refine wx_op ?_
      refine wx_var rfl ?_
      refine ⟨_, rfl, ?_⟩
      refine wx_int ?_
      refine ⟨_, rfl, ?_⟩
      refine rx_ixT rfl ?_
      refine ⟨_, rfl, ?_⟩
      refine wa_cons ?_
      refine wx_slT ?_
      refine wx_op ?_
      refine wx_var rfl ?_
      refine ⟨_, rfl, ?_⟩
      refine wx_int ?_
      refine ⟨_, rfl, ?_⟩
      refine rx_ixT rfl ?_
      refine ⟨_, rfl, ?_⟩
      refine wo_no ?_
      refine wo_some ?_
      refine wx_var rfl ?_
      refine ⟨_, rfl, ?_⟩
      rw [pcut_map]
      refine ⟨_, rfl, ?_⟩
      refine wa_nil ?_
      refine ⟨[(yTup K yStr) _law_theory_here.1, (yTup K (yTr K yStr yStr yInt)) (pcut _law_theory_here.2 none (some s1.2))], rfl, show 2 ≤ 1000 by decide, ?_⟩
      refine ⟨(_law_theory_here.1, (pcut _law_theory_here.2 none (some s1.2))), _, rfl, show 4 < 10 by decide, rfl, fun _law_known => ?_⟩
      refine ws_seq ?_
      refine ws_ctx (Γ' := [.val ((yLst K yInt) _law_script), .own false ((wLst K yInt) s1.1), .val ((yPr K (yTup K yStr) (yTup K (yTr K yStr yStr yInt))) _law_theory_here), .val (yInt s1.2), .val ((yPr K (yTup K yStr) (yTup K (yTr K yStr yStr yInt))) _law_known), .any, .any, .any, .any, .any]) rfl ?_
      refine ws_setO (wLst K (yO_Differences P w K A)) ?_
      refine wx_lst (K := K) ?_
      refine wa_cons ?_
      refine wx_fz ?_
      refine wx_make ?_
      refine wa_cons ?_
      refine wx_var rfl ?_
      refine ⟨_, rfl, ?_⟩
      refine wa_nil ?_
      refine ⟨[(yPr K (yTup K yStr) (yTup K (yTr K yStr yStr yInt))) _law_known], _, _, (fun r5 : Unit × ((List Str) × (Option (List ((Str × Str) × Int))) × (List (Str × Str × Int))) => wO_Differences P w K A r5.2), rfl, ⟨(), _law_known, rfl, rfl⟩, rfl, (fun _ z => noerr_ne z), (fun _ => rfl), (fun _ => ⟨_, rfl, fun _ _ _ z => z⟩), fun r5 _ => ?_⟩
      refine ⟨_, rfl, ?_⟩
      refine ⟨_, rfl, ?_⟩
      refine wa_nil ?_
      refine ⟨[(yO_Differences P w K A) r5.2], rfl, show 1 ≤ 1000 by decide, ?_⟩
      refine ⟨([r5.2] : List ((List Str) × (Option (List ((Str × Str) × Int))) × (List (Str × Str × Int)))), _, rfl, show 5 < 10 by decide, rfl, fun _law_objects => ?_⟩
      refine ws_seq ?_
      refine ws_ctx (Γ' := [.val ((yLst K yInt) _law_script), .own false ((wLst K yInt) s1.1), .val ((yPr K (yTup K yStr) (yTup K (yTr K yStr yStr yInt))) _law_theory_here), .val (yInt s1.2), .val ((yPr K (yTup K yStr) (yTup K (yTr K yStr yStr yInt))) _law_known), .own false ((wLst K (yO_Differences P w K A)) _law_objects), .any, .any, .any, .any]) rfl ?_
      refine ws_setO (wLst K (yPr K (yTup K yStr) (yTup K (yTr K yStr yStr yInt)))) ?_
      refine wx_lst (K := K) ?_
      refine wa_cons ?_
      refine wx_var rfl ?_
      refine ⟨_, rfl, ?_⟩
      refine wa_nil ?_
      refine ⟨[(yPr K (yTup K yStr) (yTup K (yTr K yStr yStr yInt))) _law_known], rfl, show 1 ≤ 1000 by decide, ?_⟩
      refine ⟨([_law_known] : List ((List Str) × (List (Str × Str × Int)))), _, rfl, show 6 < 10 by decide, rfl, fun _law_theories => ?_⟩
      refine ws_seq ?_
      refine ws_ctx (Γ' := [.val ((yLst K yInt) _law_script), .own false ((wLst K yInt) s1.1), .val ((yPr K (yTup K yStr) (yTup K (yTr K yStr yStr yInt))) _law_theory_here), .val (yInt s1.2), .val ((yPr K (yTup K yStr) (yTup K (yTr K yStr yStr yInt))) _law_known), .own false ((wLst K (yO_Differences P w K A)) _law_objects), .own false ((wLst K (yPr K (yTup K yStr) (yTup K (yTr K yStr yStr yInt)))) _law_theories), .any, .any, .any]) rfl ?_
      refine ws_for (μ := ((List ((List Str) × (Option (List ((Str × Str) × Int))) × (List (Str × Str × Int)))) × (List ((List Str) × (List (Str × Str × Int)))))) yInt ?_
      refine wi_rng2 ?_
      refine wa_cons ?_
      refine wx_var rfl ?_
      refine ⟨_, rfl, ?_⟩
      refine wa_cons ?_
      refine wx_cb ?_
      refine wa_cons ?_
      refine wx_op ?_
      refine wx_var rfl ?_
      refine ⟨_, rfl, ?_⟩
      refine wx_int ?_
      refine ⟨_, rfl, ?_⟩
      refine rx_ixT rfl ?_
      refine ⟨_, rfl, ?_⟩
      refine wa_nil ?_
      refine rc_lenSq (pTup K) ?_
      rw [List.length_map]
      refine ⟨_, rfl, ?_⟩
      refine wa_nil ?_
      refine ⟨_, _, _, rfl, rfl, ?_⟩
      refine ⟨_, (fun s2 : ((List ((List Str) × (Option (List ((Str × Str) × Int))) × (List (Str × Str × Int)))) × (List ((List Str) × (List (Str × Str × Int))))) => [.val ((yLst K yInt) _law_script), .own false ((wLst K yInt) s1.1), .val ((yPr K (yTup K yStr) (yTup K (yTr K yStr yStr yInt))) _law_theory_here), .val (yInt s1.2), .any, .own false ((wLst K (yO_Differences P w K A)) s2.1), .own false ((wLst K (yPr K (yTup K yStr) (yTup K (yTr K yStr yStr yInt)))) s2.2), .any, .any, .any]), (rng s1.2 ((_law_theory_here.2.length : Int) - s1.2).toNat), _, _, rfl, rfl, by walk_at "subc", fun s2 q1 => ?_, fun s2 => ?_⟩
      · refine wg_name (show 7 < 10 by decide) ?_
        refine ws_seq ?_
        refine ws_ctx (Γ' := [.val ((yLst K yInt) _law_script), .own false ((wLst K yInt) s1.1), .val ((yPr K (yTup K yStr) (yTup K (yTr K yStr yStr yInt))) _law_theory_here), .val (yInt s1.2), .any, .own false ((wLst K (yO_Differences P w K A)) s2.1), .own false ((wLst K (yPr K (yTup K yStr) (yTup K (yTr K yStr yStr yInt)))) s2.2), .val (yInt q1), .any, .any]) rfl ?_
        refine ws_append (yO_Differences P w K A) (xs0 := s2.1) rfl ?_
        refine wx_opO ?_
        refine wx_ixOwn (K := K) (yO_Differences P w K A) rfl ?_
        refine wx_op ?_
        refine wx_peek ?_
        refine wx_cb ?_
        refine wa_cons ?_
        refine wx_var rfl ?_
        refine ⟨_, rfl, ?_⟩
        refine wa_nil ?_
        refine rc_lenSq (pLst K) ?_
        rw [List.length_map]
        refine ⟨_, rfl, imm_int, ?_⟩
        refine ⟨_, rfl, ?_⟩
        refine wx_int ?_
        refine ⟨_, rfl, ?_⟩
        refine rx_ari rfl ?_
        refine ⟨_, _, s2.1, _, rfl, rfl, rfl, fun r7 => ?_⟩
        refine ⟨_, rfl, ?_⟩
        refine wx_tupB (K := K) ?_
        refine wx_op ?_
        refine wx_op ?_
        refine wx_var rfl ?_
        refine ⟨_, rfl, ?_⟩
        refine wx_int ?_
        refine ⟨_, rfl, ?_⟩
        refine rx_ixT rfl ?_
        refine ⟨_, rfl, ?_⟩
        refine wx_var rfl ?_
        refine ⟨_, rfl, ?_⟩
        refine rx_ixTp (t := (yTr K yStr yStr yInt)) (xs := _law_theory_here.2) rfl fun r8 => ?_
        refine ⟨_, rfl, ?_⟩
        refine ⟨_, rfl, ?_⟩
        refine rc_call _ _ _ ⟨r7, r8, rfl, rfl⟩ ⟨rfl, rfl, trivial⟩ (show List.Nodup ([] : List Nat) by decide) rfl (.inr fun _ z => noerr_ne z) fun r9 _ => ?_
        refine ⟨_, s2.1, r9, _, rfl, rfl, rfl, fun z1 => ?_⟩
        refine ws_seq ?_
        refine ws_ctx (Γ' := [.val ((yLst K yInt) _law_script), .own false ((wLst K yInt) s1.1), .val ((yPr K (yTup K yStr) (yTup K (yTr K yStr yStr yInt))) _law_theory_here), .val (yInt s1.2), .any, .own false ((wLst K (yO_Differences P w K A)) z1), .own false ((wLst K (yPr K (yTup K yStr) (yTup K (yTr K yStr yStr yInt)))) s2.2), .val (yInt q1), .any, .any]) rfl ?_
        refine ws_setL (yPr K (yTup K yStr) (yTup K (yTr K yStr yStr yInt))) ?_
        refine wx_tup (K := K) ?_
        refine wa_cons ?_
        refine wx_op ?_
        refine wx_var rfl ?_
        refine ⟨_, rfl, ?_⟩
        refine wx_int ?_
        refine ⟨_, rfl, ?_⟩
        refine rx_ixT rfl ?_
        refine ⟨_, rfl, ?_⟩
        refine wa_cons ?_
        refine wx_slT ?_
        refine wx_op ?_
        refine wx_var rfl ?_
        refine ⟨_, rfl, ?_⟩
        refine wx_int ?_
        refine ⟨_, rfl, ?_⟩
        refine rx_ixT rfl ?_
        refine ⟨_, rfl, ?_⟩
        refine wo_no ?_
        refine wo_some ?_
        refine wx_op ?_
        refine wx_var rfl ?_
        refine ⟨_, rfl, ?_⟩
        refine wx_int ?_
        refine ⟨_, rfl, ?_⟩
        refine rx_ari rfl ?_
        refine ⟨_, rfl, ?_⟩
        rw [pcut_map]
        refine ⟨_, rfl, ?_⟩
        refine wa_nil ?_
        refine ⟨[(yTup K yStr) _law_theory_here.1, (yTup K (yTr K yStr yStr yInt)) (pcut _law_theory_here.2 none (some (q1 + (1 : Int))))], rfl, show 2 ≤ 1000 by decide, ?_⟩
        refine ⟨(_law_theory_here.1, (pcut _law_theory_here.2 none (some (q1 + (1 : Int))))), _, rfl, show 4 < 10 by decide, rfl, fun _law_known => ?_⟩
        refine ws_ctx (Γ' := [.val ((yLst K yInt) _law_script), .own false ((wLst K yInt) s1.1), .val ((yPr K (yTup K yStr) (yTup K (yTr K yStr yStr yInt))) _law_theory_here), .val (yInt s1.2), .val ((yPr K (yTup K yStr) (yTup K (yTr K yStr yStr yInt))) _law_known), .own false ((wLst K (yO_Differences P w K A)) z1), .own false ((wLst K (yPr K (yTup K yStr) (yTup K (yTr K yStr yStr yInt)))) s2.2), .val (yInt q1), .any, .any]) rfl ?_
        refine ws_append (yPr K (yTup K yStr) (yTup K (yTr K yStr yStr yInt))) (xs0 := s2.2) rfl ?_
        refine wx_var rfl ?_
        refine ⟨_, s2.2, _law_known, _, rfl, rfl, rfl, fun z2 => ?_⟩
        exact ⟨_, rfl, by walk_at "subc"⟩
      refine ws_seq ?_
      refine ws_ctx (Γ' := [.val ((yLst K yInt) _law_script), .own false ((wLst K yInt) s1.1), .val ((yPr K (yTup K yStr) (yTup K (yTr K yStr yStr yInt))) _law_theory_here), .val (yInt s1.2), .any, .own false ((wLst K (yO_Differences P w K A)) s2.1), .own false ((wLst K (yPr K (yTup K yStr) (yTup K (yTr K yStr yStr yInt)))) s2.2), .any, .any, .any]) rfl ?_
      refine ws_frz 5 rfl ?_
      refine ws_setL yInt ?_
      refine wx_callT ?_
      refine wx_call ?_
      refine wa_cons ?_
      refine wx_var rfl ?_
      refine ⟨_, rfl, ?_⟩
      refine wa_cons ?_
      refine wx_int ?_
      refine ⟨_, rfl, ?_⟩
      refine wa_nil ?_
      refine rc_call _ _ _ ⟨_law_script, (1 : Int), rfl, rfl⟩ ⟨rfl, rfl, trivial⟩ (show List.Nodup ([] : List Nat) by decide) rfl (.inr fun _ z => by first | exact noerr_ne z | exact (nomatch z)) fun r10 _ => ?_
      refine ⟨_, rfl, ?_⟩
      refine wa_cons ?_
      refine wx_cb ?_
      refine wa_cons ?_
      refine wx_var rfl ?_
      refine ⟨_, rfl, ?_⟩
      refine wa_nil ?_
      refine rc_lenSq (pLst K) ?_
      rw [List.length_map]
      refine ⟨_, rfl, ?_⟩
      refine wa_nil ?_
      refine ⟨rfl, [yInt (s2.1.length : Int)], _, _, rfl, ⟨r10, (s2.1.length : Int), rfl, rfl⟩, rfl, fun _ z => noerr_ne z, fun r11 _ => ?_⟩
      refine ⟨r11.1, _, rfl, show 8 < 10 by decide, rfl, fun _law_again => ?_⟩
      refine ws_seq ?_
      refine ws_ctx (Γ' := [.val ((yLst K yInt) _law_script), .own false ((wLst K yInt) s1.1), .val ((yPr K (yTup K yStr) (yTup K (yTr K yStr yStr yInt))) _law_theory_here), .val (yInt s1.2), .any, .val ((yLst K (yO_Differences P w K A)) s2.1), .own false ((wLst K (yPr K (yTup K yStr) (yTup K (yTr K yStr yStr yInt)))) s2.2), .any, .val (yInt _law_again), .any]) rfl ?_
      refine ws_frz 6 rfl ?_
      refine ws_forF (μ := Unit) (τ := (Bool)) yInt ?_
      refine wi_list ?_
      refine wx_fz ?_
      refine wx_op ?_
      refine wx_fz ?_
      refine wx_listRg (K := K) ?_
      refine wx_cb ?_
      refine wa_cons ?_
      refine wx_var rfl ?_
      refine ⟨_, rfl, ?_⟩
      refine wa_nil ?_
      refine rc_lenSq (pLst K) ?_
      rw [List.length_map]
      refine ⟨_, _, rfl, rfl, ?_⟩
      refine ⟨_, rfl, ?_⟩
      refine ⟨_, rfl, ?_⟩
      refine wx_fz ?_
      refine wx_lst (K := K) ?_
      refine wa_cons ?_
      refine wx_var rfl ?_
      refine ⟨_, rfl, ?_⟩
      refine wa_nil ?_
      refine ⟨[yInt _law_again], rfl, show 1 ≤ 1000 by decide, ?_⟩
      refine ⟨_, rfl, ?_⟩
      refine ⟨_, rfl, ?_⟩
      refine rx_catL (t := yInt) (xs := (rng 0 ((s2.1.length : Int)).toNat)) (ys := ([_law_again] : List Int)) rfl ?_
      refine ⟨_, rfl, ?_⟩
      refine ⟨_, rfl, ?_⟩
      refine ⟨_, (fun s3 : Unit => [.val ((yLst K yInt) _law_script), .own false ((wLst K yInt) s1.1), .val ((yPr K (yTup K yStr) (yTup K (yTr K yStr yStr yInt))) _law_theory_here), .val (yInt s1.2), .any, .val ((yLst K (yO_Differences P w K A)) s2.1), .val ((yLst K (yPr K (yTup K yStr) (yTup K (yTr K yStr yStr yInt)))) s2.2), .any, .val (yInt _law_again), .any]), ((rng 0 ((s2.1.length : Int)).toNat) ++ ([_law_again] : List Int)), _, _, _, rfl, rfl, by walk_at "subc", fun s3 q2 => ?_, fun s3 => ?_⟩
      · refine wg_name (show 7 < 10 by decide) ?_
        refine ws_ctx (Γ' := [.val ((yLst K yInt) _law_script), .own false ((wLst K yInt) s1.1), .val ((yPr K (yTup K yStr) (yTup K (yTr K yStr yStr yInt))) _law_theory_here), .val (yInt s1.2), .any, .val ((yLst K (yO_Differences P w K A)) s2.1), .val ((yLst K (yPr K (yTup K yStr) (yTup K (yTr K yStr yStr yInt)))) s2.2), .val (yInt q2), .val (yInt _law_again), .any]) rfl ?_
        refine ws_if ?_
        refine wt_not ?_
        refine wt_b ?_
        refine wx_call ?_
        refine wa_cons ?_
        refine wx_op ?_
        refine wx_var rfl ?_
        refine ⟨_, rfl, ?_⟩
        refine wx_var rfl ?_
        refine ⟨_, rfl, ?_⟩
        refine rx_ixLp (t := (yPr K (yTup K yStr) (yTup K (yTr K yStr yStr yInt)))) (xs := s2.2) rfl fun r14 => ?_
        refine ⟨_, rfl, ?_⟩
        refine wa_cons ?_
        refine wx_op ?_
        refine wx_var rfl ?_
        refine ⟨_, rfl, ?_⟩
        refine wx_var rfl ?_
        refine ⟨_, rfl, ?_⟩
        refine rx_ixLp (t := (yO_Differences P w K A)) (xs := s2.1) rfl fun r15 => ?_
        refine ⟨_, rfl, ?_⟩
        refine wa_nil ?_
        refine rc_call _ _ _ ⟨r14, r15, rfl, rfl⟩ ⟨rfl, rfl, trivial⟩ (show List.Nodup ([] : List Nat) by decide) rfl (.inr fun _ z => by first | exact noerr_ne z | exact (nomatch z)) fun r16 _ => ?_
        refine ⟨_, rfl, ?_⟩
        refine ⟨_, _, rfl, ?_, ?_⟩
        · refine ws_ctx (Γ' := [.val ((yLst K yInt) _law_script), .own false ((wLst K yInt) s1.1), .val ((yPr K (yTup K yStr) (yTup K (yTr K yStr yStr yInt))) _law_theory_here), .val (yInt s1.2), .any, .val ((yLst K (yO_Differences P w K A)) s2.1), .val ((yLst K (yPr K (yTup K yStr) (yTup K (yTr K yStr yStr yInt)))) s2.2), .val (yInt q2), .val (yInt _law_again), .any]) rfl ?_
          refine ws_ret ?_
          refine wx_bl ?_
          refine ⟨_, rfl, ?_⟩
          exact ⟨_, rfl, rfl, (by first | trivial | exact ⟨rfl, trivial⟩ | exact ⟨rfl, rfl, trivial⟩)⟩
        · refine ws_next ?_
          exact ⟨_, rfl, by walk_at "subc"⟩
      refine ws_seq ?_
      refine ws_ctx (Γ' := [.val ((yLst K yInt) _law_script), .own false ((wLst K yInt) s1.1), .val ((yPr K (yTup K yStr) (yTup K (yTr K yStr yStr yInt))) _law_theory_here), .val (yInt s1.2), .any, .val ((yLst K (yO_Differences P w K A)) s2.1), .val ((yLst K (yPr K (yTup K yStr) (yTup K (yTr K yStr yStr yInt)))) s2.2), .any, .val (yInt _law_again), .any]) rfl ?_
      refine ws_setL (yO_Differences P w K A) ?_
      refine wx_opO ?_
      refine wx_op ?_
      refine wx_var rfl ?_
      refine ⟨_, rfl, ?_⟩
      refine wx_var rfl ?_
      refine ⟨_, rfl, ?_⟩
      refine rx_ixLp (t := (yO_Differences P w K A)) (xs := s2.1) rfl fun r17 => ?_
      refine ⟨_, rfl, ?_⟩
      refine wx_tupB (K := K) ?_
      refine wx_callT ?_
      refine wx_call ?_
      refine wa_cons ?_
      refine wx_var rfl ?_
      refine ⟨_, rfl, ?_⟩
      refine wa_cons ?_
      refine wx_int ?_
      refine ⟨_, rfl, ?_⟩
      refine wa_nil ?_
      refine rc_call _ _ _ ⟨_law_script, (2 : Int), rfl, rfl⟩ ⟨rfl, rfl, trivial⟩ (show List.Nodup ([] : List Nat) by decide) rfl (.inr fun _ z => by first | exact noerr_ne z | exact (nomatch z)) fun r18 _ => ?_
      refine ⟨_, rfl, ?_⟩
      refine wa_cons ?_
      refine wx_toSeqT (K := K) ?_
      refine wx_op ?_
      refine wx_var rfl ?_
      refine ⟨_, rfl, ?_⟩
      refine wx_int ?_
      refine ⟨_, rfl, ?_⟩
      refine rx_ixT rfl ?_
      refine ⟨_, rfl, ?_⟩
      refine ⟨_, rfl, ?_⟩
      refine wa_nil ?_
      refine ⟨rfl, [(ySeqq K yStr) _law_theory_here.1], _, _, rfl, ⟨r18, _law_theory_here.1, rfl, rfl⟩, rfl, fun _ z => noerr_ne z, fun r19 _ => ?_⟩
      refine ⟨_, rfl, ?_⟩
      refine ⟨_, rfl, ?_⟩
      refine rc_call _ _ _ ⟨r17, r19.1, rfl, rfl⟩ ⟨rfl, rfl, trivial⟩ (show List.Nodup ([] : List Nat) by decide) rfl (.inr fun _ z => noerr_ne z) fun r20 _ => ?_
      refine ⟨r20, _, rfl, show 9 < 10 by decide, rfl, fun _law_other => ?_⟩
      refine ws_ctx (Γ' := [.val ((yLst K yInt) _law_script), .own false ((wLst K yInt) s1.1), .val ((yPr K (yTup K yStr) (yTup K (yTr K yStr yStr yInt))) _law_theory_here), .val (yInt s1.2), .any, .val ((yLst K (yO_Differences P w K A)) s2.1), .val ((yLst K (yPr K (yTup K yStr) (yTup K (yTr K yStr yStr yInt)))) s2.2), .any, .val (yInt _law_again), .val ((yO_Differences P w K A) _law_other)]) rfl ?_
      refine ws_ret ?_
      refine wx_andVM (μ := Unit) ?_
      refine wx_op ?_
      refine wx_prop ?_
      refine wx_var rfl ?_
      refine ⟨_, rfl, ?_⟩
      refine rc_callP _ _ (f_Differences_satisfiable _law_other) ⟨_law_other, rfl, rfl⟩ ⟨rfl, trivial⟩ (show List.Nodup ([] : List Nat) by decide) rfl ?_
      refine ⟨_, rfl, ?_⟩
      refine wx_fz ?_
      refine wx_lst (K := K) ?_
      refine wa_cons ?_
      refine wx_bl ?_
      refine ⟨_, rfl, ?_⟩
      refine wa_cons ?_
      refine wx_bl ?_
      refine ⟨_, rfl, ?_⟩
      refine wa_nil ?_
      refine ⟨[yBl true, yBl false], rfl, show 2 ≤ 1000 by decide, ?_⟩
      refine ⟨_, rfl, ?_⟩
      refine ⟨_, rfl, ?_⟩
      refine rx_inD (K := K) (t := yBl) (x := (f_Differences_satisfiable _law_other)) (ys := ([true, false] : List Bool)) (pLst K) (Nat.le_of_ble_eq_true rfl) ?_
      refine ⟨_, rfl, (fun s4 : Unit => [.val ((yLst K yInt) _law_script), .own false ((wLst K yInt) s1.1), .val ((yPr K (yTup K yStr) (yTup K (yTr K yStr yStr yInt))) _law_theory_here), .val (yInt s1.2), .any, .val ((yLst K (yO_Differences P w K A)) s2.1), .val ((yLst K (yPr K (yTup K yStr) (yTup K (yTr K yStr yStr yInt)))) s2.2), .any, .val (yInt _law_again), .val ((yO_Differences P w K A) _law_other)]), _, (), _, rfl, by walk_at "subc", fun _ => ?_, fun r24 => ?_⟩
      · refine wx_call ?_
        refine wa_cons ?_
        refine wx_op ?_
        refine wx_var rfl ?_
        refine ⟨_, rfl, ?_⟩
        refine wx_var rfl ?_
        refine ⟨_, rfl, ?_⟩
        refine rx_ixLp (t := (yPr K (yTup K yStr) (yTup K (yTr K yStr yStr yInt)))) (xs := s2.2) rfl fun r21 => ?_
        refine ⟨_, rfl, ?_⟩
        refine wa_cons ?_
        refine wx_op ?_
        refine wx_var rfl ?_
        refine ⟨_, rfl, ?_⟩
        refine wx_var rfl ?_
        refine ⟨_, rfl, ?_⟩
        refine rx_ixLp (t := (yO_Differences P w K A)) (xs := s2.1) rfl fun r22 => ?_
        refine ⟨_, rfl, ?_⟩
        refine wa_nil ?_
        refine rc_call _ _ _ ⟨r21, r22, rfl, rfl⟩ ⟨rfl, rfl, trivial⟩ (show List.Nodup ([] : List Nat) by decide) rfl (.inr fun _ z => by first | exact noerr_ne z | exact (nomatch z)) fun r23 _ => ?_
        exact ⟨_, _, rfl, rfl, by walk_at "subc"⟩
      exact ⟨_, rfl, rfl, (by first | trivial | exact ⟨rfl, trivial⟩ | exact ⟨rfl, rfl, trivial⟩)⟩
end
def sp_law (K : PySem.W.Frag) : Sp := fun vs H Q _ => ∃ (a : Addr) (ns : List Int), vs = [.ref a] ∧ SqL K H a (ns.map V.int) ∧ ns.length ≤ 63 ∧ ∀ H', Q (.bl true) H'
section
variable {P : Program} {w : World} {K : PySem.W.Frag} {mg : Str → Option Value} {base : Heap} {A : Nat → Addr} {D : Nat → FuncData}
theorem ok_law (T : Txt K mg A D) : FnOk P w K mg base CX0 5 (A 21) (D 21) ["_law_script"] (sp_law K) := FnOk.imp (ok_lawM T) fun vs H Q E h => law_imp (fun ns => ⟨ns, rfl, rfl⟩) (fun ns hn => law_pure hn) h
end
theorem all_mk {l : PySem.W.OpenLaw} {w : World} {K : PySem.W.Frag} {h : Heap} {mg : Str → Option Value} {fa : Addr} (X : K.In h) (G : h.Ns mainGlobals mg) (hfa : mg "law" = some (.ref fa))
    {f2 : Addr} (a2 : PySem.W.nsIn K mainGlobals "ShadowError" = some (some (.ref f2)))
    {f3 : Addr} (a3 : PySem.W.nsIn K mainGlobals "NoSolution" = some (some (.ref f3)))
    (ex_3 : PySem.W.excIn K f3 [.type "ValueError", .type "Exception", .type "BaseException", .type "object"] "ValueError.__new__" = true)
    (kC_3 : PySem.W.keepIn K (.ref f3) = true)
    (tC_3 : PySem.W.typeIn K (.ref f3) = some (.type "type"))
    (ga_3 : PySem.W.findIn K (.ref f3) "__getattribute__" = some (some (.builtin "BaseException.__getattribute__")))
    (gg_3 : PySem.W.findIn K (.ref f3) "__getattr__" = some none)
    (eC_3 : PySem.W.subIn K (.ref f3) (.type "BaseException") = some true)
    (hC_3 : PySem.W.hasDictIn K f3 = true)
    (isa_3 : PySem.W.findIn K (.ref f3) "__class__" = some (some (.builtin "object.__class__")))
    (isn_3 : PySem.W.specialIn K (.builtin "object.__class__") "__get__" = some (some (.builtin "getset_descriptor.__get__")))
    (ist_3 : PySem.W.takesIn K (.builtin "object.__class__") = some true)
    (ism_3 : PySem.W.mroIn K f3 (.type "object") = some true)
    (sb_3_2 : PySem.W.subIn K (.ref f3) (.ref f2) = some true) (ki_3_2 : PySem.W.kitOne K (.ref f3) (.ref f2) = some true)
    (eC_2 : PySem.W.subIn K (.ref f2) (.type "BaseException") = some true)
    (tC_2 : PySem.W.typeIn K (.ref f2) = some (.type "type"))
    (hC_2 : PySem.W.hasDictIn K f2 = true)
    (sb_3_3 : PySem.W.subIn K (.ref f3) (.ref f3) = some true) (ki_3_3 : PySem.W.kitOne K (.ref f3) (.ref f3) = some true)
    (kv_3 : PySem.W.kitOne K (.ref f3) (.type "ValueError") = some true)
    {f7 : Addr}
    (a7 : PySem.W.nsIn K mainGlobals "Differences" = some (some (.ref f7)))
    (pg7 : PySem.W.plainGet K f7 Str.empty = true)
    (hd7 : PySem.W.hasDictIn K f7 = true)
    (po7 : PySem.W.plainOver K f7 = true)
    (os7 : PySem.W.findIn K (.ref f7) "__setattr__" = some (some (.builtin "object.__setattr__")))
    (rd7 : PySem.W.readsIn K f7 (.type "type") = true)
    (og7 : PySem.W.specialIn K (.ref f7) "__getattribute__" = some (some (.builtin "type.__getattribute__")))
    (sf7 : PySem.W.selfFirst K f7 = true)
    (n7_places : PySem.W.findIn K (.ref f7) "places" = some none)
    (n7_sums : PySem.W.findIn K (.ref f7) "sums" = some none)
    (n7_constraints : PySem.W.findIn K (.ref f7) "constraints" = some none)
    (mk7 : PySem.W.makesIn K f7 = true)
    (kp7 : PySem.W.keepIn K (.ref f7) = true)
    {oc1140 kV1140 dc1140 pm1140 cd1140 ct1140 : Value} {od1140 an1140 : Option Addr} {sl1140 : Array (Option Value)} {f1140 : Addr}
    (at1140 : PySem.W.findIn K (.ref f7) "__init__" = some (some (.ref f1140)))
    (fn1140 : PySem.W.isFn K (.ref f1140) = true)
    (l1140 : K.lookup f1140 = some ⟨oc1140, od1140, .func (PySem.W.fnOf "__init__" "Differences.__init__" (defArgs (topM 7 0)) (defBody (topM 7 0)) (defScope (topM 7 0)) .none kV1140 dc1140 pm1140 an1140 cd1140 ct1140), sl1140⟩)
    (c1140 : PySem.W.codeIn K cd1140 "Differences.__init__" = true)
    (k1140 : PySem.W.keepIn K (.ref f1140) = true)
    {oc1141 kV1141 dc1141 pm1141 cd1141 ct1141 : Value} {od1141 an1141 : Option Addr} {sl1141 : Array (Option Value)} {f1141 : Addr} {p1141 : Addr} {re1141 : List Value}
    (at1141 : PySem.W.findIn K (.ref f7) "satisfiable" = some (some (.ref p1141)))
    (ge1141 : PySem.W.specialIn K (.ref p1141) "__get__" = some (some (.builtin "property.__get__")))
    (ta1141 : PySem.W.takesIn K (.ref p1141) = some true)
    (rc1141 : PySem.W.recIn K p1141 "property" = some (.ref f1141 :: re1141))
    (l1141 : K.lookup f1141 = some ⟨oc1141, od1141, .func (PySem.W.fnOf "satisfiable" "Differences.satisfiable" (defArgs (topM 7 1)) (defBody (topM 7 1)) (defScope (topM 7 1)) .none kV1141 dc1141 pm1141 an1141 cd1141 ct1141), sl1141⟩)
    (c1141 : PySem.W.codeIn K cd1141 "Differences.satisfiable" = true)
    (k1141 : PySem.W.keepIn K (.ref f1141) = true)
    {oc1144 kV1144 dc1144 pm1144 cd1144 ct1144 : Value} {od1144 an1144 : Option Addr} {sl1144 : Array (Option Value)} {f1144 : Addr}
    (at1144 : PySem.W.findIn K (.ref f7) "__len__" = some (some (.ref f1144)))
    (fn1144 : PySem.W.isFn K (.ref f1144) = true)
    (l1144 : K.lookup f1144 = some ⟨oc1144, od1144, .func (PySem.W.fnOf "__len__" "Differences.__len__" (defArgs (topM 7 4)) (defBody (topM 7 4)) (defScope (topM 7 4)) .none kV1144 dc1144 pm1144 an1144 cd1144 ct1144), sl1144⟩)
    (c1144 : PySem.W.codeIn K cd1144 "Differences.__len__" = true)
    (k1144 : PySem.W.keepIn K (.ref f1144) = true)
    {oc1145 kV1145 dc1145 pm1145 cd1145 ct1145 : Value} {od1145 an1145 : Option Addr} {sl1145 : Array (Option Value)} {f1145 : Addr}
    (at1145 : PySem.W.findIn K (.ref f7) "__iter__" = some (some (.ref f1145)))
    (fn1145 : PySem.W.isFn K (.ref f1145) = true)
    (l1145 : K.lookup f1145 = some ⟨oc1145, od1145, .func (PySem.W.fnOf "__iter__" "Differences.__iter__" (defArgs (topM 7 5)) (defBody (topM 7 5)) (defScope (topM 7 5)) .none kV1145 dc1145 pm1145 an1145 cd1145 ct1145), sl1145⟩)
    (c1145 : PySem.W.codeIn K cd1145 "Differences.__iter__" = true)
    (k1145 : PySem.W.keepIn K (.ref f1145) = true)
    {oc1146 kV1146 dc1146 pm1146 cd1146 ct1146 : Value} {od1146 an1146 : Option Addr} {sl1146 : Array (Option Value)} {f1146 : Addr}
    (at1146 : PySem.W.findIn K (.ref f7) "__contains__" = some (some (.ref f1146)))
    (fn1146 : PySem.W.isFn K (.ref f1146) = true)
    (l1146 : K.lookup f1146 = some ⟨oc1146, od1146, .func (PySem.W.fnOf "__contains__" "Differences.__contains__" (defArgs (topM 7 6)) (defBody (topM 7 6)) (defScope (topM 7 6)) .none kV1146 dc1146 pm1146 an1146 cd1146 ct1146), sl1146⟩)
    (c1146 : PySem.W.codeIn K cd1146 "Differences.__contains__" = true)
    (k1146 : PySem.W.keepIn K (.ref f1146) = true)
    {oc1147 kV1147 dc1147 pm1147 cd1147 ct1147 : Value} {od1147 an1147 : Option Addr} {sl1147 : Array (Option Value)} {f1147 : Addr}
    (at1147 : PySem.W.findIn K (.ref f7) "__getitem__" = some (some (.ref f1147)))
    (fn1147 : PySem.W.isFn K (.ref f1147) = true)
    (l1147 : K.lookup f1147 = some ⟨oc1147, od1147, .func (PySem.W.fnOf "__getitem__" "Differences.__getitem__" (defArgs (topM 7 7)) (defBody (topM 7 7)) (defScope (topM 7 7)) .none kV1147 dc1147 pm1147 an1147 cd1147 ct1147), sl1147⟩)
    (c1147 : PySem.W.codeIn K cd1147 "Differences.__getitem__" = true)
    (k1147 : PySem.W.keepIn K (.ref f1147) = true)
    {oc1148 kV1148 dc1148 pm1148 cd1148 ct1148 : Value} {od1148 an1148 : Option Addr} {sl1148 : Array (Option Value)} {f1148 : Addr}
    (at1148 : PySem.W.findIn K (.ref f7) (PySem.dunder (Operator.Add).info.2) = some (some (.ref f1148)))
    (fn1148 : PySem.W.isFn K (.ref f1148) = true)
    (l1148 : K.lookup f1148 = some ⟨oc1148, od1148, .func (PySem.W.fnOf "__add__" "Differences.__add__" (defArgs (topM 7 8)) (defBody (topM 7 8)) (defScope (topM 7 8)) .none kV1148 dc1148 pm1148 an1148 cd1148 ct1148), sl1148⟩)
    (c1148 : PySem.W.codeIn K cd1148 "Differences.__add__" = true)
    (k1148 : PySem.W.keepIn K (.ref f1148) = true)
    (b2_7_Add_tuple : PySem.W.findIn K (.type "tuple") (PySem.dunder (Operator.Add).info.2) = some (some (.builtin "tuple.__add__")))
    (b3_7_Add_tuple : PySem.W.findIn K (.type "tuple") (PySem.dunderR (Operator.Add).info.2) = some none)
    {oc5 kV5 dc5 pm5 cd5 ct5 : Value} {od5 an5 : Option Addr} {sl5 : Array (Option Value)} {f5 : Addr}
    (a5 : PySem.W.nsIn K mainGlobals "tightened" = some (some (.ref f5))) (l5 : K.lookup f5 = some ⟨oc5, od5, .func (PySem.W.fnOf "tightened" "tightened" (defArgs (topS 5)) (defBody (topS 5)) (defScope (topS 5)) .none kV5 dc5 pm5 an5 cd5 ct5), sl5⟩) (c5 : PySem.W.codeIn K cd5 "tightened" = true) (k5 : PySem.W.keepIn K (.ref f5) = true)
    {oc6 kV6 dc6 pm6 cd6 ct6 : Value} {od6 an6 : Option Addr} {sl6 : Array (Option Value)} {f6 : Addr}
    (a6 : PySem.W.nsIn K mainGlobals "listed" = some (some (.ref f6))) (l6 : K.lookup f6 = some ⟨oc6, od6, .func (PySem.W.fnOf "listed" "listed" (defArgs (topS 6)) (defBody (topS 6)) (defScope (topS 6)) .none kV6 dc6 pm6 an6 cd6 ct6), sl6⟩) (c6 : PySem.W.codeIn K cd6 "listed" = true) (k6 : PySem.W.keepIn K (.ref f6) = true)
    {oc9 kV9 dc9 pm9 cd9 ct9 : Value} {od9 an9 : Option Addr} {sl9 : Array (Option Value)} {f9 : Addr}
    (a9 : PySem.W.nsIn K mainGlobals "_law_source" = some (some (.ref f9))) (l9 : K.lookup f9 = some ⟨oc9, od9, .func (PySem.W.fnOf "_law_source" "_law_source" (defArgs (topS 9)) (defBody (topS 9)) (defScope (topS 9)) .none kV9 dc9 pm9 an9 cd9 ct9), sl9⟩) (c9 : PySem.W.codeIn K cd9 "_law_source" = true) (k9 : PySem.W.keepIn K (.ref f9) = true)
    {oc10 kV10 dc10 pm10 cd10 ct10 : Value} {od10 an10 : Option Addr} {sl10 : Array (Option Value)} {f10 : Addr}
    (a10 : PySem.W.nsIn K mainGlobals "_law_draw" = some (some (.ref f10))) (l10 : K.lookup f10 = some ⟨oc10, od10, .func (PySem.W.fnOf "_law_draw" "_law_draw" (defArgs (topS 10)) (defBody (topS 10)) (defScope (topS 10)) .none kV10 dc10 pm10 an10 cd10 ct10), sl10⟩) (c10 : PySem.W.codeIn K cd10 "_law_draw" = true) (k10 : PySem.W.keepIn K (.ref f10) = true)
    {oc11 kV11 dc11 pm11 cd11 ct11 : Value} {od11 an11 : Option Addr} {sl11 : Array (Option Value)} {f11 : Addr}
    (a11 : PySem.W.nsIn K mainGlobals "_law_some" = some (some (.ref f11))) (l11 : K.lookup f11 = some ⟨oc11, od11, .func (PySem.W.fnOf "_law_some" "_law_some" (defArgs (topS 11)) (defBody (topS 11)) (defScope (topS 11)) .none kV11 dc11 pm11 an11 cd11 ct11), sl11⟩) (c11 : PySem.W.codeIn K cd11 "_law_some" = true) (k11 : PySem.W.keepIn K (.ref f11) = true)
    {oc12 kV12 dc12 pm12 cd12 ct12 : Value} {od12 an12 : Option Addr} {sl12 : Array (Option Value)} {f12 : Addr}
    (a12 : PySem.W.nsIn K mainGlobals "_law_bound" = some (some (.ref f12))) (l12 : K.lookup f12 = some ⟨oc12, od12, .func (PySem.W.fnOf "_law_bound" "_law_bound" (defArgs (topS 12)) (defBody (topS 12)) (defScope (topS 12)) .none kV12 dc12 pm12 an12 cd12 ct12), sl12⟩) (c12 : PySem.W.codeIn K cd12 "_law_bound" = true) (k12 : PySem.W.keepIn K (.ref f12) = true)
    {oc13 kV13 dc13 pm13 cd13 ct13 : Value} {od13 an13 : Option Addr} {sl13 : Array (Option Value)} {f13 : Addr}
    (a13 : PySem.W.nsIn K mainGlobals "_law_constraint" = some (some (.ref f13))) (l13 : K.lookup f13 = some ⟨oc13, od13, .func (PySem.W.fnOf "_law_constraint" "_law_constraint" (defArgs (topS 13)) (defBody (topS 13)) (defScope (topS 13)) .none kV13 dc13 pm13 an13 cd13 ct13), sl13⟩) (c13 : PySem.W.codeIn K cd13 "_law_constraint" = true) (k13 : PySem.W.keepIn K (.ref f13) = true)
    {oc14 kV14 dc14 pm14 cd14 ct14 : Value} {od14 an14 : Option Addr} {sl14 : Array (Option Value)} {f14 : Addr}
    (a14 : PySem.W.nsIn K mainGlobals "_law_theory" = some (some (.ref f14))) (l14 : K.lookup f14 = some ⟨oc14, od14, .func (PySem.W.fnOf "_law_theory" "_law_theory" (defArgs (topS 14)) (defBody (topS 14)) (defScope (topS 14)) .none kV14 dc14 pm14 an14 cd14 ct14), sl14⟩) (c14 : PySem.W.codeIn K cd14 "_law_theory" = true) (k14 : PySem.W.keepIn K (.ref f14) = true)
    {oc15 kV15 dc15 pm15 cd15 ct15 : Value} {od15 an15 : Option Addr} {sl15 : Array (Option Value)} {f15 : Addr}
    (a15 : PySem.W.nsIn K mainGlobals "_law_sums" = some (some (.ref f15))) (l15 : K.lookup f15 = some ⟨oc15, od15, .func (PySem.W.fnOf "_law_sums" "_law_sums" (defArgs (topS 15)) (defBody (topS 15)) (defScope (topS 15)) .none kV15 dc15 pm15 an15 cd15 ct15), sl15⟩) (c15 : PySem.W.codeIn K cd15 "_law_sums" = true) (k15 : PySem.W.keepIn K (.ref f15) = true)
    {oc16 kV16 dc16 pm16 cd16 ct16 : Value} {od16 an16 : Option Addr} {sl16 : Array (Option Value)} {f16 : Addr}
    (a16 : PySem.W.nsIn K mainGlobals "_law_satisfiable" = some (some (.ref f16))) (l16 : K.lookup f16 = some ⟨oc16, od16, .func (PySem.W.fnOf "_law_satisfiable" "_law_satisfiable" (defArgs (topS 16)) (defBody (topS 16)) (defScope (topS 16)) .none kV16 dc16 pm16 an16 cd16 ct16), sl16⟩) (c16 : PySem.W.codeIn K cd16 "_law_satisfiable" = true) (k16 : PySem.W.keepIn K (.ref f16) = true)
    {oc17 kV17 dc17 pm17 cd17 ct17 : Value} {od17 an17 : Option Addr} {sl17 : Array (Option Value)} {f17 : Addr}
    (a17 : PySem.W.nsIn K mainGlobals "_law_is_int" = some (some (.ref f17))) (l17 : K.lookup f17 = some ⟨oc17, od17, .func (PySem.W.fnOf "_law_is_int" "_law_is_int" (defArgs (topS 17)) (defBody (topS 17)) (defScope (topS 17)) .none kV17 dc17 pm17 an17 cd17 ct17), sl17⟩) (c17 : PySem.W.codeIn K cd17 "_law_is_int" = true) (k17 : PySem.W.keepIn K (.ref f17) = true)
    {oc18 kV18 dc18 pm18 cd18 ct18 : Value} {od18 an18 : Option Addr} {sl18 : Array (Option Value)} {f18 : Addr}
    (a18 : PySem.W.nsIn K mainGlobals "_law_difference_right" = some (some (.ref f18))) (l18 : K.lookup f18 = some ⟨oc18, od18, .func (PySem.W.fnOf "_law_difference_right" "_law_difference_right" (defArgs (topS 18)) (defBody (topS 18)) (defScope (topS 18)) .none kV18 dc18 pm18 an18 cd18 ct18), sl18⟩) (c18 : PySem.W.codeIn K cd18 "_law_difference_right" = true) (k18 : PySem.W.keepIn K (.ref f18) = true)
    {oc19 kV19 dc19 pm19 cd19 ct19 : Value} {od19 an19 : Option Addr} {sl19 : Array (Option Value)} {f19 : Addr}
    (a19 : PySem.W.nsIn K mainGlobals "_law_follows_right" = some (some (.ref f19))) (l19 : K.lookup f19 = some ⟨oc19, od19, .func (PySem.W.fnOf "_law_follows_right" "_law_follows_right" (defArgs (topS 19)) (defBody (topS 19)) (defScope (topS 19)) .none kV19 dc19 pm19 an19 cd19 ct19), sl19⟩) (c19 : PySem.W.codeIn K cd19 "_law_follows_right" = true) (k19 : PySem.W.keepIn K (.ref f19) = true)
    {oc20 kV20 dc20 pm20 cd20 ct20 : Value} {od20 an20 : Option Addr} {sl20 : Array (Option Value)} {f20 : Addr}
    (a20 : PySem.W.nsIn K mainGlobals "_law_object_right" = some (some (.ref f20))) (l20 : K.lookup f20 = some ⟨oc20, od20, .func (PySem.W.fnOf "_law_object_right" "_law_object_right" (defArgs (topS 20)) (defBody (topS 20)) (defScope (topS 20)) .none kV20 dc20 pm20 an20 cd20 ct20), sl20⟩) (c20 : PySem.W.codeIn K cd20 "_law_object_right" = true) (k20 : PySem.W.keepIn K (.ref f20) = true)
    {oc21 kV21 dc21 pm21 cd21 ct21 : Value} {od21 an21 : Option Addr} {sl21 : Array (Option Value)} {f21 : Addr}
    (a21 : PySem.W.nsIn K mainGlobals "law" = some (some (.ref f21))) (l21 : K.lookup f21 = some ⟨oc21, od21, .func (PySem.W.fnOf "law" "law" (defArgs (topS 21)) (defBody (topS 21)) (defScope (topS 21)) .none kV21 dc21 pm21 an21 cd21 ct21), sl21⟩) (c21 : PySem.W.codeIn K cd21 "law" = true) (k21 : PySem.W.keepIn K (.ref f21) = true)
    (z_len : PySem.W.nsIn K mainGlobals "len" = some none)
    (z_int : PySem.W.nsIn K mainGlobals "int" = some none)
    (z_bool : PySem.W.nsIn K mainGlobals "bool" = some none)
    (z_list : PySem.W.nsIn K mainGlobals "list" = some none)
    (z_tuple : PySem.W.nsIn K mainGlobals "tuple" = some none)
    (z_range : PySem.W.nsIn K mainGlobals "range" = some none)
    (z_sorted : PySem.W.nsIn K mainGlobals "sorted" = some none)
    (z_isinstance : PySem.W.nsIn K mainGlobals "isinstance" = some none)
    (z_iter : PySem.W.nsIn K mainGlobals "iter" = some none)
    (z_ValueError : PySem.W.nsIn K mainGlobals "ValueError" = some none)
    : ∃ fd : FuncData, (∀ (s : Shared) (v : Value), BindsTo s fd ⟨[v], []⟩ [("_law_script", v)]) ∧ ∀ base : Heap, K.In base → base.Ns mainGlobals mg → FnOk l.prog w K mg base CX0 5 fa fd ["_law_script"] (sp_law K) := by
  have e := hfa.symm.trans (PySem.W.mg_of X G a21)
  cases e
  let A : Nat → Addr := fun i => match i with
    | 5 => f5
    | 6 => f6
    | 9 => f9
    | 10 => f10
    | 11 => f11
    | 12 => f12
    | 13 => f13
    | 14 => f14
    | 15 => f15
    | 16 => f16
    | 17 => f17
    | 18 => f18
    | 19 => f19
    | 20 => f20
    | 21 => fa
    | 2 => f2
    | 3 => f3
    | 7 => f7
    | 1140 => f1140
    | 1141 => f1141
    | 6141 => p1141
    | 1144 => f1144
    | 1145 => f1145
    | 1146 => f1146
    | 1147 => f1147
    | 1148 => f1148
    | _ => 0
  let D : Nat → FuncData := fun i => match i with
    | 1140 => PySem.W.fnOf "__init__" "Differences.__init__" (defArgs (topM 7 0)) (defBody (topM 7 0)) (defScope (topM 7 0)) .none kV1140 dc1140 pm1140 an1140 cd1140 ct1140
    | 1141 => PySem.W.fnOf "satisfiable" "Differences.satisfiable" (defArgs (topM 7 1)) (defBody (topM 7 1)) (defScope (topM 7 1)) .none kV1141 dc1141 pm1141 an1141 cd1141 ct1141
    | 1144 => PySem.W.fnOf "__len__" "Differences.__len__" (defArgs (topM 7 4)) (defBody (topM 7 4)) (defScope (topM 7 4)) .none kV1144 dc1144 pm1144 an1144 cd1144 ct1144
    | 1145 => PySem.W.fnOf "__iter__" "Differences.__iter__" (defArgs (topM 7 5)) (defBody (topM 7 5)) (defScope (topM 7 5)) .none kV1145 dc1145 pm1145 an1145 cd1145 ct1145
    | 1146 => PySem.W.fnOf "__contains__" "Differences.__contains__" (defArgs (topM 7 6)) (defBody (topM 7 6)) (defScope (topM 7 6)) .none kV1146 dc1146 pm1146 an1146 cd1146 ct1146
    | 1147 => PySem.W.fnOf "__getitem__" "Differences.__getitem__" (defArgs (topM 7 7)) (defBody (topM 7 7)) (defScope (topM 7 7)) .none kV1147 dc1147 pm1147 an1147 cd1147 ct1147
    | 1148 => PySem.W.fnOf "__add__" "Differences.__add__" (defArgs (topM 7 8)) (defBody (topM 7 8)) (defScope (topM 7 8)) .none kV1148 dc1148 pm1148 an1148 cd1148 ct1148
    | 5 => PySem.W.fnOf "tightened" "tightened" (defArgs (topS 5)) (defBody (topS 5)) (defScope (topS 5)) .none kV5 dc5 pm5 an5 cd5 ct5
    | 6 => PySem.W.fnOf "listed" "listed" (defArgs (topS 6)) (defBody (topS 6)) (defScope (topS 6)) .none kV6 dc6 pm6 an6 cd6 ct6
    | 9 => PySem.W.fnOf "_law_source" "_law_source" (defArgs (topS 9)) (defBody (topS 9)) (defScope (topS 9)) .none kV9 dc9 pm9 an9 cd9 ct9
    | 10 => PySem.W.fnOf "_law_draw" "_law_draw" (defArgs (topS 10)) (defBody (topS 10)) (defScope (topS 10)) .none kV10 dc10 pm10 an10 cd10 ct10
    | 11 => PySem.W.fnOf "_law_some" "_law_some" (defArgs (topS 11)) (defBody (topS 11)) (defScope (topS 11)) .none kV11 dc11 pm11 an11 cd11 ct11
    | 12 => PySem.W.fnOf "_law_bound" "_law_bound" (defArgs (topS 12)) (defBody (topS 12)) (defScope (topS 12)) .none kV12 dc12 pm12 an12 cd12 ct12
    | 13 => PySem.W.fnOf "_law_constraint" "_law_constraint" (defArgs (topS 13)) (defBody (topS 13)) (defScope (topS 13)) .none kV13 dc13 pm13 an13 cd13 ct13
    | 14 => PySem.W.fnOf "_law_theory" "_law_theory" (defArgs (topS 14)) (defBody (topS 14)) (defScope (topS 14)) .none kV14 dc14 pm14 an14 cd14 ct14
    | 15 => PySem.W.fnOf "_law_sums" "_law_sums" (defArgs (topS 15)) (defBody (topS 15)) (defScope (topS 15)) .none kV15 dc15 pm15 an15 cd15 ct15
    | 16 => PySem.W.fnOf "_law_satisfiable" "_law_satisfiable" (defArgs (topS 16)) (defBody (topS 16)) (defScope (topS 16)) .none kV16 dc16 pm16 an16 cd16 ct16
    | 17 => PySem.W.fnOf "_law_is_int" "_law_is_int" (defArgs (topS 17)) (defBody (topS 17)) (defScope (topS 17)) .none kV17 dc17 pm17 an17 cd17 ct17
    | 18 => PySem.W.fnOf "_law_difference_right" "_law_difference_right" (defArgs (topS 18)) (defBody (topS 18)) (defScope (topS 18)) .none kV18 dc18 pm18 an18 cd18 ct18
    | 19 => PySem.W.fnOf "_law_follows_right" "_law_follows_right" (defArgs (topS 19)) (defBody (topS 19)) (defScope (topS 19)) .none kV19 dc19 pm19 an19 cd19 ct19
    | 20 => PySem.W.fnOf "_law_object_right" "_law_object_right" (defArgs (topS 20)) (defBody (topS 20)) (defScope (topS 20)) .none kV20 dc20 pm20 an20 cd20 ct20
    | 21 => PySem.W.fnOf "law" "law" (defArgs (topS 21)) (defBody (topS 21)) (defScope (topS 21)) .none kV21 dc21 pm21 an21 cd21 ct21
    | _ => PySem.W.fnOf "law" "law" (defArgs (topS 21)) (defBody (topS 21)) (defScope (topS 21)) .none kV21 dc21 pm21 an21 cd21 ct21
  have T : Txt K mg A D := {
    g_ShadowError := PySem.W.mg_of X G a2
    g_NoSolution := PySem.W.mg_of X G a3
    E0_NoSolution := ⟨PySem.W.mg_of X G a3, ex_3, kC_3, tC_3, ⟨ga_3, gg_3, eC_3, hC_3, isa_3, isn_3, ist_3, ism_3⟩⟩
    x_NoSolution_ShadowError := PySem.W.exm_ref eC_2 hC_2 tC_2 sb_3_2
    k_NoSolution_ShadowError := ki_3_2
    x_NoSolution_NoSolution := PySem.W.exm_ref eC_3 hC_3 tC_3 sb_3_3
    k_NoSolution_NoSolution := ki_3_3
    kv_NoSolution := kv_3
    g_Differences := PySem.W.mg_of X G a7
    cl_Differences := ⟨pg7, hd7, po7, os7⟩
    cr_Differences := ⟨rd7, og7⟩
    sf_Differences := sf7
    n_Differences_places := n7_places
    n_Differences_sums := n7_sums
    n_Differences_constraints := n7_constraints
    mk_Differences := ⟨mk7, at1140, fn1140, kp7⟩
    F_Differences___init__ := fun_mk (st := (topM 7 0)) l1140 c1140 k1140
    b_Differences___init__ := (fun_mk (st := (topM 7 0)) l1140 c1140 k1140).binds (ps := ["self", "theory"]) fun _ _ _ _ _ _ us hl => match us, hl with | [_, _], _ => rfl
    M_Differences___init__ := ⟨at1140, fn1140, k1140⟩
    F_Differences_satisfiable := fun_mk (st := (topM 7 1)) l1141 c1141 k1141
    b_Differences_satisfiable := (fun_mk (st := (topM 7 1)) l1141 c1141 k1141).binds (ps := ["self"]) fun _ _ _ _ _ _ us hl => match us, hl with | [_], _ => rfl
    P_Differences_satisfiable := ⟨at1141, ge1141, ta1141, ⟨_, rc1141⟩⟩
    F_Differences___len__ := fun_mk (st := (topM 7 4)) l1144 c1144 k1144
    b_Differences___len__ := (fun_mk (st := (topM 7 4)) l1144 c1144 k1144).binds (ps := ["self"]) fun _ _ _ _ _ _ us hl => match us, hl with | [_], _ => rfl
    M_Differences___len__ := ⟨at1144, fn1144, k1144⟩
    F_Differences___iter__ := fun_mk (st := (topM 7 5)) l1145 c1145 k1145
    b_Differences___iter__ := (fun_mk (st := (topM 7 5)) l1145 c1145 k1145).binds (ps := ["self"]) fun _ _ _ _ _ _ us hl => match us, hl with | [_], _ => rfl
    M_Differences___iter__ := ⟨at1145, fn1145, k1145⟩
    F_Differences___contains__ := fun_mk (st := (topM 7 6)) l1146 c1146 k1146
    b_Differences___contains__ := (fun_mk (st := (topM 7 6)) l1146 c1146 k1146).binds (ps := ["self", "constraint"]) fun _ _ _ _ _ _ us hl => match us, hl with | [_, _], _ => rfl
    M_Differences___contains__ := ⟨at1146, fn1146, k1146⟩
    F_Differences___getitem__ := fun_mk (st := (topM 7 7)) l1147 c1147 k1147
    b_Differences___getitem__ := (fun_mk (st := (topM 7 7)) l1147 c1147 k1147).binds (ps := ["self", "at"]) fun _ _ _ _ _ _ us hl => match us, hl with | [_, _], _ => rfl
    M_Differences___getitem__ := ⟨at1147, fn1147, k1147⟩
    F_Differences___add__ := fun_mk (st := (topM 7 8)) l1148 c1148 k1148
    b_Differences___add__ := (fun_mk (st := (topM 7 8)) l1148 c1148 k1148).binds (ps := ["self", "constraint"]) fun _ _ _ _ _ _ us hl => match us, hl with | [_, _], _ => rfl
    M_Differences___add__ := ⟨at1148, fn1148, k1148⟩
    B_Differences_Add_tuple := ⟨sf7, ⟨_, b2_7_Add_tuple, by decide +kernel⟩, b3_7_Add_tuple⟩
    F_tightened := fun_mk (st := topS 5) l5 c5 k5
    g_tightened := PySem.W.mg_of X G a5
    b_tightened := (fun_mk (st := topS 5) l5 c5 k5).binds (ps := ["sums", "constraint"]) fun _ _ _ _ _ _ us hl => match us, hl with | [_, _], _ => rfl
    F_listed := fun_mk (st := topS 6) l6 c6 k6
    g_listed := PySem.W.mg_of X G a6
    b_listed := (fun_mk (st := topS 6) l6 c6 k6).binds (ps := ["sums"]) fun _ _ _ _ _ _ us hl => match us, hl with | [_], _ => rfl
    F__law_source := fun_mk (st := topS 9) l9 c9 k9
    g__law_source := PySem.W.mg_of X G a9
    b__law_source := (fun_mk (st := topS 9) l9 c9 k9).binds (ps := ["_law_script", "_law_k"]) fun _ _ _ _ _ _ us hl => match us, hl with | [_, _], _ => rfl
    F__law_draw := fun_mk (st := topS 10) l10 c10 k10
    g__law_draw := PySem.W.mg_of X G a10
    b__law_draw := (fun_mk (st := topS 10) l10 c10 k10).binds (ps := ["_law_source_here", "_law_limit"]) fun _ _ _ _ _ _ us hl => match us, hl with | [_, _], _ => rfl
    F__law_some := fun_mk (st := topS 11) l11 c11 k11
    g__law_some := PySem.W.mg_of X G a11
    b__law_some := (fun_mk (st := topS 11) l11 c11 k11).binds (ps := ["_law_source_here", "_law_names", "_law_most"]) fun _ _ _ _ _ _ us hl => match us, hl with | [_, _, _], _ => rfl
    F__law_bound := fun_mk (st := topS 12) l12 c12 k12
    g__law_bound := PySem.W.mg_of X G a12
    b__law_bound := (fun_mk (st := topS 12) l12 c12 k12).binds (ps := ["_law_source_here"]) fun _ _ _ _ _ _ us hl => match us, hl with | [_], _ => rfl
    F__law_constraint := fun_mk (st := topS 13) l13 c13 k13
    g__law_constraint := PySem.W.mg_of X G a13
    b__law_constraint := (fun_mk (st := topS 13) l13 c13 k13).binds (ps := ["_law_source_here", "_law_names"]) fun _ _ _ _ _ _ us hl => match us, hl with | [_, _], _ => rfl
    F__law_theory := fun_mk (st := topS 14) l14 c14 k14
    g__law_theory := PySem.W.mg_of X G a14
    b__law_theory := (fun_mk (st := topS 14) l14 c14 k14).binds (ps := ["_law_source_here"]) fun _ _ _ _ _ _ us hl => match us, hl with | [_], _ => rfl
    F__law_sums := fun_mk (st := topS 15) l15 c15 k15
    g__law_sums := PySem.W.mg_of X G a15
    b__law_sums := (fun_mk (st := topS 15) l15 c15 k15).binds (ps := ["_law_theory_here"]) fun _ _ _ _ _ _ us hl => match us, hl with | [_], _ => rfl
    F__law_satisfiable := fun_mk (st := topS 16) l16 c16 k16
    g__law_satisfiable := PySem.W.mg_of X G a16
    b__law_satisfiable := (fun_mk (st := topS 16) l16 c16 k16).binds (ps := ["_law_theory_here", "_law_sums_here"]) fun _ _ _ _ _ _ us hl => match us, hl with | [_, _], _ => rfl
    F__law_is_int := fun_mk (st := topS 17) l17 c17 k17
    g__law_is_int := PySem.W.mg_of X G a17
    b__law_is_int := (fun_mk (st := topS 17) l17 c17 k17).binds (ps := ["_law_value"]) fun _ _ _ _ _ _ us hl => match us, hl with | [_], _ => rfl
    F__law_difference_right := fun_mk (st := topS 18) l18 c18 k18
    g__law_difference_right := PySem.W.mg_of X G a18
    b__law_difference_right := (fun_mk (st := topS 18) l18 c18 k18).binds (ps := ["_law_actual", "_law_sums_here", "_law_there", "_law_x", "_law_y"]) fun _ _ _ _ _ _ us hl => match us, hl with | [_, _, _, _, _], _ => rfl
    F__law_follows_right := fun_mk (st := topS 19) l19 c19 k19
    g__law_follows_right := PySem.W.mg_of X G a19
    b__law_follows_right := (fun_mk (st := topS 19) l19 c19 k19).binds (ps := ["_law_actual", "_law_sums_here", "_law_there", "_law_x", "_law_y"]) fun _ _ _ _ _ _ us hl => match us, hl with | [_, _, _, _, _], _ => rfl
    F__law_object_right := fun_mk (st := topS 20) l20 c20 k20
    g__law_object_right := PySem.W.mg_of X G a20
    b__law_object_right := (fun_mk (st := topS 20) l20 c20 k20).binds (ps := ["_law_theory_here", "_law_actual"]) fun _ _ _ _ _ _ us hl => match us, hl with | [_, _], _ => rfl
    F_law := fun_mk (st := topS 21) l21 c21 k21
    g_law := PySem.W.mg_of X G a21
    b_law := (fun_mk (st := topS 21) l21 c21 k21).binds (ps := ["_law_script"]) fun _ _ _ _ _ _ us hl => match us, hl with | [_], _ => rfl
    z_len := PySem.W.mg_none_of X G z_len
    z_int := PySem.W.mg_none_of X G z_int
    z_bool := PySem.W.mg_none_of X G z_bool
    z_list := PySem.W.mg_none_of X G z_list
    z_tuple := PySem.W.mg_none_of X G z_tuple
    z_range := PySem.W.mg_none_of X G z_range
    z_sorted := PySem.W.mg_none_of X G z_sorted
    z_isinstance := PySem.W.mg_none_of X G z_isinstance
    z_iter := PySem.W.mg_none_of X G z_iter
    z_ValueError := PySem.W.mg_none_of X G z_ValueError
  }
  exact ⟨D 21, fun s v => .of_eq rfl, fun base _ _ => ok_law T⟩
theorem walk {l : PySem.W.OpenLaw} {q : Program} {loose : List Str} {XP : (Str → Option Value) → Heap → Prop} {YP : World → Heap → Prop} {d : DefRec} {K : Params → PySem.W.Frag} (hn : l.most = some 63) (hdf : d.params.defaults = [])
    (hY : ∀ (w : World) (h : Heap), YP w h → (K w.params).In h)
    (F : ∀ (w : World) (mg : Str → Option Value) (fa : Addr) (h : Heap), (K w.params).In h → h.Ns mainGlobals mg → mg d.name = some (.ref fa) →
      ∃ fd : FuncData, (∀ (s : Shared) (u : Value), BindsTo s fd ⟨[u], []⟩ [("_law_script", u)]) ∧ ∀ base : Heap, (K w.params).In base → base.Ns mainGlobals mg → FnOk l.prog w (K w.params) mg base CX0 5 fa fd ["_law_script"] (sp_law (K w.params))) :
    PySem.W.WalkO q loose XP YP l.row.toRowW d [] (fun f vs => PySem.call f vs) :=
  L2.walk_of (n := 63) (k := 5) (x := "_law_script") (CX := fun _ => CX0) (sp := fun w => sp_law (K w.params)) hn (by decide) hdf ⟨rfl, by decide, by decide⟩ hY F (fun _ H a ns hl hO hS => ⟨a, ns, rfl, hS, hl, fun _ => rfl⟩) fun _ _ _ _ _ z => z
end Sl
open PySem PySem.W PyProof.Rows
set_option maxRecDepth 100000 in
set_option maxHeartbeats 0 in
theorem PySem.Challenge.cw_shadowlinks_k16_differences_grow_holds : PySem.Challenge.rw_shadowlinks_k16_differences_grow.Holds := by
  w_on; o_law; k_head; (case hw => w_witness2)
  k_fill
  refine Sl.walk (l := PySem.Challenge.rw_shadowlinks_k16_differences_grow) rfl rfl (fun w h Y => PySem.W.kIn_of Y) ?F
  case F =>
    intro w mg fa h KX G hmg
    refine' Sl.all_mk KX G hmg ?a2 ?a3 ?ex_3 ?kC_3 ?tC_3 ?ga_3 ?gg_3 ?eC_3 ?hC_3 ?isa_3 ?isn_3 ?ist_3 ?ism_3 ?sb_3_2 ?ki_3_2 ?eC_2 ?tC_2 ?hC_2 ?sb_3_3 ?ki_3_3 ?kv_3 ?a7 ?pg7 ?hd7 ?po7 ?os7 ?rd7 ?og7 ?sf7 ?n7_places ?n7_sums ?n7_constraints ?mk7 ?kp7 ?at1140 ?fn1140 ?l1140 ?c1140 ?k1140 ?at1141 ?ge1141 ?ta1141 ?rc1141 ?l1141 ?c1141 ?k1141 ?at1144 ?fn1144 ?l1144 ?c1144 ?k1144 ?at1145 ?fn1145 ?l1145 ?c1145 ?k1145 ?at1146 ?fn1146 ?l1146 ?c1146 ?k1146 ?at1147 ?fn1147 ?l1147 ?c1147 ?k1147 ?at1148 ?fn1148 ?l1148 ?c1148 ?k1148 ?b2_7_Add_tuple ?b3_7_Add_tuple ?a5 ?l5 ?c5 ?k5 ?a6 ?l6 ?c6 ?k6 ?a9 ?l9 ?c9 ?k9 ?a10 ?l10 ?c10 ?k10 ?a11 ?l11 ?c11 ?k11 ?a12 ?l12 ?c12 ?k12 ?a13 ?l13 ?c13 ?k13 ?a14 ?l14 ?c14 ?k14 ?a15 ?l15 ?c15 ?k15 ?a16 ?l16 ?c16 ?k16 ?a17 ?l17 ?c17 ?k17 ?a18 ?l18 ?c18 ?k18 ?a19 ?l19 ?c19 ?k19 ?a20 ?l20 ?c20 ?k20 ?a21 ?l21 ?c21 ?k21 ?z_len ?z_int ?z_bool ?z_list ?z_tuple ?z_range ?z_sorted ?z_isinstance ?z_iter ?z_ValueError
    (case a2 => k_is)
    (case a3 => k_is)
    (case ex_3 => k_exc)
    (case kC_3 => k_is)
    (case tC_3 => k_is)
    (case ga_3 => k_is)
    (case gg_3 => k_is)
    (case eC_3 => k_is)
    (case hC_3 => k_is)
    (case isa_3 => k_is)
    (case isn_3 => k_is)
    (case ist_3 => k_is)
    (case ism_3 => k_is)
    (case sb_3_2 => first | rfl | k_is)
    (case ki_3_2 => first | kit_is | k_is)
    (case eC_2 => k_is)
    (case tC_2 => k_is)
    (case hC_2 => k_is)
    (case sb_3_3 => first | rfl | k_is)
    (case ki_3_3 => first | kit_is | k_is)
    (case kv_3 => first | kit_is | k_is)
    (case a7 => k_is)
    (case pg7 => k_is)
    (case hd7 => k_is)
    (case po7 => k_is)
    (case os7 => k_is)
    (case rd7 => k_is)
    (case og7 => k_is)
    (case sf7 => k_is)
    (case n7_places => k_is)
    (case n7_sums => k_is)
    (case n7_constraints => k_is)
    (case mk7 => k_is)
    (case kp7 => k_is)
    (case at1140 => k_is)
    (case fn1140 => k_is)
    (case l1140 => k_is)
    (case c1140 => k_is)
    (case k1140 => k_is)
    (case at1141 => k_is)
    (case ge1141 => k_is)
    (case ta1141 => k_is)
    (case rc1141 => k_is)
    (case l1141 => k_is)
    (case c1141 => k_is)
    (case k1141 => k_is)
    (case at1144 => k_is)
    (case fn1144 => k_is)
    (case l1144 => k_is)
    (case c1144 => k_is)
    (case k1144 => k_is)
    (case at1145 => k_is)
    (case fn1145 => k_is)
    (case l1145 => k_is)
    (case c1145 => k_is)
    (case k1145 => k_is)
    (case at1146 => k_is)
    (case fn1146 => k_is)
    (case l1146 => k_is)
    (case c1146 => k_is)
    (case k1146 => k_is)
    (case at1147 => k_is)
    (case fn1147 => k_is)
    (case l1147 => k_is)
    (case c1147 => k_is)
    (case k1147 => k_is)
    (case at1148 => k_is)
    (case fn1148 => k_is)
    (case l1148 => k_is)
    (case c1148 => k_is)
    (case k1148 => k_is)
    (case b2_7_Add_tuple => k_is)
    (case b3_7_Add_tuple => k_is)
    (case a5 => k_is)
    (case l5 => k_is)
    (case c5 => k_is)
    (case k5 => k_is)
    (case a6 => k_is)
    (case l6 => k_is)
    (case c6 => k_is)
    (case k6 => k_is)
    (case a9 => k_is)
    (case l9 => k_is)
    (case c9 => k_is)
    (case k9 => k_is)
    (case a10 => k_is)
    (case l10 => k_is)
    (case c10 => k_is)
    (case k10 => k_is)
    (case a11 => k_is)
    (case l11 => k_is)
    (case c11 => k_is)
    (case k11 => k_is)
    (case a12 => k_is)
    (case l12 => k_is)
    (case c12 => k_is)
    (case k12 => k_is)
    (case a13 => k_is)
    (case l13 => k_is)
    (case c13 => k_is)
    (case k13 => k_is)
    (case a14 => k_is)
    (case l14 => k_is)
    (case c14 => k_is)
    (case k14 => k_is)
    (case a15 => k_is)
    (case l15 => k_is)
    (case c15 => k_is)
    (case k15 => k_is)
    (case a16 => k_is)
    (case l16 => k_is)
    (case c16 => k_is)
    (case k16 => k_is)
    (case a17 => k_is)
    (case l17 => k_is)
    (case c17 => k_is)
    (case k17 => k_is)
    (case a18 => k_is)
    (case l18 => k_is)
    (case c18 => k_is)
    (case k18 => k_is)
    (case a19 => k_is)
    (case l19 => k_is)
    (case c19 => k_is)
    (case k19 => k_is)
    (case a20 => k_is)
    (case l20 => k_is)
    (case c20 => k_is)
    (case k20 => k_is)
    (case a21 => k_is)
    (case l21 => k_is)
    (case c21 => k_is)
    (case k21 => k_is)
    (case z_len => k_is)
    (case z_int => k_is)
    (case z_bool => k_is)
    (case z_list => k_is)
    (case z_tuple => k_is)
    (case z_range => k_is)
    (case z_sorted => k_is)
    (case z_isinstance => k_is)
    (case z_iter => k_is)
    (case z_ValueError => k_is)
