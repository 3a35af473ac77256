import PyProof.Rows.All
import Wide.All
import OpenK.AllK
import Wide.FinOn
import HandS.ForMost
import HandS.Walk
import HandS.IsInst
import HandS.Wide
import HandS.Gcd
import HandS.Star
import HandS.Flow
import HandS.EndBits
import HandS.Conv
import HandS.Deep
import HandS.TupAny
import HandS.Codes
import KE.SortData
import KE.SortKeyHeap
import KE.DataCmp
import KE.DataEq
import HandS.Style
import HandS.ExcOwn
import HandS.CallSlots
import HandS.Property
import HandS.Iter
import HandS.IterVal
import KE.KOpsOwn
import KE.KOwnIter
import HandS.OwnIter
import HandS.ClsMeth
import HandS.CallRecv
import KE.KSuper
import HandS.Nested
import HandS.SortKw
import PyProof.WalkInts
import HandS.Exc
import HandS.ExcIs
import HandS.ExcField
import HandS.WordsExc
import HandS.TryOnly
import HandS.More
import HandS.SetKeys
import HandS.DictComp
import HandS.DictTup
import HandS.ReCall
import PyProof.Rows.MatchSeqLen
import PyProof.RulesMatchSeq
import PyProof.DictRoadsH
import PyProof.DictMoreH
import PyProof.DictWalks
import KE.KDictWalk
import KE.KeyNested
import KE.KDictKeyed
import KE.KDictCopyH
import HandS.TupLen
import PySem.Challenge.RW_shadowlinks_k14_step_constraints
set_option Elab.async false
set_option linter.all false
set_option maxRecDepth 100000
set_option maxHeartbeats 4000000
namespace Sl
open PySem PySem.Spec PyProof.Rows L2
/-- a tuple, as it stands or held -/
def isTup : HO → Bool
  | .tup _ => true
  | .frz _ (.tup _) => true
  | _ => false
/-- a new address -/
structure Fr (H : Hp) (p : Addr) : Prop where
  eq : H p = none
/-- all stands but what is at A (tuples stand anyway) -/
def Kp (A : List Addr) (H H' : Hp) : Prop := ∀ a o, H a = some o → (a ∉ A ∨ isTup o = true) → H' a = some o
section
variable {A B : List Addr} {H H' H1 H2 : Hp} {p q a : Addr} {o o' u : HO}
theorem Kp.refl : Kp A H H := fun _ _ h _ => h
theorem Kp.trans (x : Kp A H H1) (y : Kp A H1 H2) : Kp A H H2 := fun a o h k => y a o (x a o h k) k
theorem Kp.sub (x : Kp A H H') (h : ∀ a ∈ A, a ∈ B) : Kp B H H' := fun a o e k => x a o e (k.imp (fun n m => n (h a m)) id)
theorem Kp.nil (x : Kp [] H H') : Kp B H H' := x.sub fun _ h => nomatch h
theorem Kp.new (h : H p = none) : Kp A H (upd H p o) := fun a u e _ => by
  rw [upd_ne (ne_of_none e h)]; exact e
theorem Kp.own (h : H p = some o) (t : isTup o = false) (m : p ∈ A) : Kp A H (upd H p o') := fun a u e k => by
  by_cases z : a = p
  · subst z
    rw [h] at e
    cases e
    rcases k with k | k
    · exact absurd m k
    · rw [t] at k; cases k
  · rw [upd_ne z]; exact e
/-- a new one, then changed: nothing that stood is touched -/
theorem Kp.back (h : H p = none) (x : Kp (p :: A) H H') : Kp A H H' := fun a o e k => x a o e (k.imp (fun n => by
  simp only [List.mem_cons, not_or]
  exact ⟨ne_of_none e h, n⟩) id)
/-- a change at what was new -/
theorem Kp.put (x : Kp A H H1) (h : H p = none) : Kp A H (upd H1 p o) := fun a u e k => by
  rw [upd_ne (ne_of_none e h)]; exact x a u e k
theorem Kp.none (x : Kp A H H') (n : a ∉ A) (h : H' a = none) : H a = none := by
  cases e : H a with
  | none => rfl
  | some o => have := x _ _ e (.inl n); rw [h] at this; cases this
theorem Kp.rd (x : Kp A H H') (h : Rd H a o) (n : a ∉ A) : Rd H' a o := by
  rcases h with h | ⟨z, h⟩
  · exact .inl (x _ _ h (.inl n))
  · exact .inr ⟨z, x _ _ h (.inl n)⟩
theorem Kp.sqT {K : PySem.W.Frag} {xs : List V} (x : Kp A H H') (h : SqT K H a xs) : SqT K H' a xs := by
  rcases h with (h | ⟨z, h⟩) | h
  · exact .inl (.inl (x _ _ h (.inr rfl)))
  · exact .inl (.inr ⟨z, x _ _ h (.inr rfl)⟩)
  · exact .inr h
end
/-! ### data that stands -/
section
variable (A : List Addr) (K : PySem.W.Frag) (H : Hp)
mutual
inductive Dv : V → PyData → Prop
  | non : Dv .non .none
  | bl (b : Bool) : Dv (.bl b) (.bool b)
  | int (i : Int) : Dv (.int i) (.int i)
  | str (x : Str) : Dv (.str x) (.str x)
  | lst {a : Addr} {xs : List V} {ds : List PyData} : Rd H a (.lst xs) → a ∉ A → DvAll xs ds → Dv (.ref a) (.list ds)
  | tup {a : Addr} {xs : List V} {ds : List PyData} : SqT K H a xs → DvAll xs ds → Dv (.ref a) (.tuple ds)
inductive DvAll : List V → List PyData → Prop
  | nil : DvAll [] []
  | cons {v : V} {vs : List V} {d : PyData} {ds : List PyData} : Dv v d → DvAll vs ds → DvAll (v :: vs) (d :: ds)
end
end
section
variable {A B : List Addr} {K : PySem.W.Frag} {H H' : Hp} {p q a : Addr} {o o' u : HO} {v : V} {d : PyData}
mutual
theorem Dv.kp (k : Kp A H H') : ∀ {v : V} {d : PyData}, Dv A K H v d → Dv A K H' v d
  | _, _, .non => .non
  | _, _, .bl b => .bl b
  | _, _, .int i => .int i
  | _, _, .str x => .str x
  | _, _, .lst h n t => .lst (k.rd h n) n (DvAll.kp k t)
  | _, _, .tup h t => .tup (k.sqT h) (DvAll.kp k t)
theorem DvAll.kp (k : Kp A H H') : ∀ {vs : List V} {ds : List PyData}, DvAll A K H vs ds → DvAll A K H' vs ds
  | _, _, .nil => .nil
  | _, _, .cons h t => .cons (Dv.kp k h) (DvAll.kp k t)
end
mutual
theorem Dv.sub (k : ∀ a ∈ B, a ∈ A) : ∀ {v : V} {d : PyData}, Dv A K H v d → Dv B K H v d
  | _, _, .non => .non
  | _, _, .bl b => .bl b
  | _, _, .int i => .int i
  | _, _, .str x => .str x
  | _, _, .lst h n t => .lst h (fun m => n (k _ m)) (DvAll.sub k t)
  | _, _, .tup h t => .tup h (DvAll.sub k t)
theorem DvAll.sub (k : ∀ a ∈ B, a ∈ A) : ∀ {vs : List V} {ds : List PyData}, DvAll A K H vs ds → DvAll B K H vs ds
  | _, _, .nil => .nil
  | _, _, .cons h t => .cons (Dv.sub k h) (DvAll.sub k t)
end
mutual
def flatT : PyData → Bool
  | .list _ => false
  | .dict _ => false
  | .tuple ds => flatTs ds
  | _ => true
def flatTs : List PyData → Bool
  | [] => true
  | d :: ds => flatT d && flatTs ds
end
mutual
theorem Dv.any : ∀ {v : V} {d : PyData}, flatT d = true → Dv A K H v d → Dv B K H v d
  | _, _, _, .non => .non
  | _, _, _, .bl b => .bl b
  | _, _, _, .int i => .int i
  | _, _, _, .str x => .str x
  | _, _, e, .lst r n t => by simp [flatT] at e
  | _, _, e, .tup r t => .tup r (DvAll.any (by simpa [flatT] using e) t)
theorem DvAll.any : ∀ {vs : List V} {ds : List PyData}, flatTs ds = true → DvAll A K H vs ds → DvAll B K H vs ds
  | _, _, _, .nil => .nil
  | _, _, e, .cons r t => by
    simp only [flatTs, Bool.and_eq_true] at e
    exact .cons (Dv.any e.1 r) (DvAll.any e.2 t)
end
mutual
theorem Dv.dp : ∀ {v : V} {d : PyData}, Dv A K H v d → Dp K H v d
  | _, _, .non => .non
  | _, _, .bl b => .bl b
  | _, _, .int i => .int i
  | _, _, .str x => .str x
  | _, _, .lst h n t => .lst (.inl h) (DvAll.dp t)
  | _, _, .tup h t => .tup h (DvAll.dp t)
theorem DvAll.dp : ∀ {vs : List V} {ds : List PyData}, DvAll A K H vs ds → DpAll K H vs ds
  | _, _, .nil => .nil
  | _, _, .cons h t => .cons (Dv.dp h) (DvAll.dp t)
end
theorem DvAll.length : ∀ {vs : List V} {ds : List PyData}, DvAll A K H vs ds → vs.length = ds.length
  | _, _, .nil => rfl
  | _, _, .cons _ t => congrArg Nat.succ (DvAll.length t)
theorem DvAll.at : ∀ {vs : List V} {ds : List PyData} {i : Nat} {v : V}, DvAll A K H vs ds → vs[i]? = some v → ∃ d, ds[i]? = some d ∧ Dv A K H v d
  | _, _, i, v, .nil, h => by simp at h
  | _, _, 0, v, .cons h _, e => by cases e; exact ⟨_, rfl, h⟩
  | _, _, i + 1, v, .cons _ t, e => DvAll.at (i := i) t e
theorem DvAll.at' : ∀ {vs : List V} {ds : List PyData} {i : Nat} {d : PyData}, DvAll A K H vs ds → ds[i]? = some d → ∃ v, vs[i]? = some v ∧ Dv A K H v d
  | _, _, i, v, .nil, h => by simp at h
  | _, _, 0, v, .cons h _, e => by cases e; exact ⟨_, rfl, h⟩
  | _, _, i + 1, v, .cons _ t, e => DvAll.at' (i := i) t e
theorem DvAll.app : ∀ {vs ws : List V} {ds es : List PyData}, DvAll A K H vs ds → DvAll A K H ws es → DvAll A K H (vs ++ ws) (ds ++ es)
  | _, _, _, _, .nil, h => h
  | _, _, _, _, .cons h t, r => .cons h (DvAll.app t r)
theorem DvAll.one (h : Dv A K H v d) : DvAll A K H [v] [d] := .cons h .nil
theorem DvAll.snoc {vs : List V} {ds : List PyData} (t : DvAll A K H vs ds) (h : Dv A K H v d) : DvAll A K H (vs ++ [v]) (ds ++ [d]) := t.app (.one h)
theorem DvAll.ints : ∀ {vs : List V} {ss : List Int}, DvAll A K H vs (ss.map .int) → vs = ss.map V.int
  | _, [], .nil => rfl
  | _, s :: ss, .cons h t => by
    cases h
    rw [List.map_cons, DvAll.ints t]
end
theorem rvRef (a : Addr) : RelV (.ref a) (.ref a) := rfl
theorem rvBl (b : Bool) : RelV (.bl b) (.bool b) := rfl
theorem sz {n : Nat} (h : n ≤ 100000) : n ≤ sizeLine := Nat.le_trans h (by decide)
theorem szl {n : Nat} (h : n < 100000) : n < sizeLine := Nat.lt_of_lt_of_le h (by decide)
/-! ### the source of draws -/
def Src (H : Hp) (a : Addr) : Prop := ∃ n c : Int, H a = some (.lst [.int n, .int c])
theorem Src.kp {A : List Addr} {H H' : Hp} {a : Addr} (k : Kp A H H') (n : a ∉ A) (h : Src H a) : Src H' a := by
  obtain ⟨x, y, e⟩ := h
  exact ⟨x, y, k _ _ e (.inl n)⟩
end Sl
namespace Sl
open PySem PySem.Spec PyProof.Rows L2
section
variable {X : Cx} {CX : CXT} {k : Nat} {f : Addr} {sp : Sp} {E : XK} {x : Str} {e : Expr} {es : List Expr} {t : TA} {p pos : Pos}
/-- f(e, ..), f of any binding, by a positional promise -/
theorem pe_callF (F : FnR X.prog X.w X.K X.mg X.base CX k f sp) (hr : Room k X.A) (hk : PySem.W.keepIn X.K (.ref f) = true) (hg : Gl X x) (hm : X.mg x = some (.ref f)) (hx : Passes CX X E) (ha : PA X (e :: es) t) (hdb : (x == ("__debug__" : Str)) = false := by decide)
    (he : starEach (e :: es) X.env = (false, eval e X.env) :: starEach es X.env := by rfl) (hpl : (backTo pos (starEach es X.env)).any (·.1) = false := by rfl) :
    PE X (.Call (.Name x p) (e :: es) [] pos) (fun σ H Q => t σ H fun vs H1 => sp vs H1 Q E) := by
  refine ⟨fun pins s σ H Q I h => ?_⟩
  refine wpAny_Call_Name_kw (ld_glob I hg hm ?_ hdb)
  refine PySem.W.callWith_K (h₀ := X.base) I.ok.mod.kin hk (thn (ha.run pos pins s σ H _ I h) fun us s1 ⟨vs, H1, I1, r, q⟩ => ⟨I1.kIn, ?_⟩) he hpl
  exact wpAny_call (run_fnR F hr hx I1 r q)
/-- def f(.., *v): n written, the rest a new tuple -/
def star (n : Nat) (sp : Sp) : Sp := fun vs H Q E => ∃ ws rest, vs = ws ++ rest ∧ ws.length = n ∧ rest.length ≤ sizeLine ∧ ∀ p, H p = Option.none → sp (ws ++ [V.ref p]) (upd H p (.tup rest)) Q E
end
end Sl
namespace Sl
open PySem PySem.Spec PyProof.Rows L2
/-! ### two readings of one term -/
section
variable {X : Cx}
theorem pi_or {tg e : Expr} {w1 w2 : TI} (h1 : PI X tg e w1) (h2 : PI X tg e w2) : PI X tg e (fun σ H R => w1 σ H R ∨ w2 σ H R) :=
  ⟨fun pins s σ H R I h => h.elim (h1.run pins s σ H R I) (h2.run pins s σ H R I)⟩
end
theorem nox_ex {X : Cx} {b : List Stmt} {R : TS → Prop} (h : ∃ t, PSs X.nox b t ∧ R t) : ∃ t, PSs X b t ∧ R t := by
  obtain ⟨t, h1, h2⟩ := h
  exact ⟨t, h1.nox, h2⟩
/-! ### texts in ascending order -/
def slt (a b : Str) : Prop := TL.tl a < TL.tl b
instance (a b : Str) : Decidable (slt a b) := inferInstanceAs (Decidable (TL.tl a < TL.tl b))
theorem ltCps_iff : ∀ a b : List Nat, ltCps a b = true ↔ a < b
  | [], [] => by simp [ltCps]
  | [], b :: bs => by simp [ltCps]
  | a :: as, [] => by simp [ltCps]
  | a :: as, b :: bs => by
    have ih := ltCps_iff as bs
    simp only [ltCps, List.cons_lt_cons_iff, Bool.or_eq_true, Bool.and_eq_true, decide_eq_true_eq, beq_iff_eq, ih]
theorem slt_trans {a b c : Str} (h : slt a b) (h' : slt b c) : slt a c := List.lt_trans h h'
theorem slt_irrefl (a : Str) : ¬ slt a a := List.lt_irrefl _
theorem slt_tri (a b : Str) : slt a b ∨ a = b ∨ slt b a := by
  by_cases h : slt a b
  · exact .inl h
  · by_cases h' : slt b a
    · exact .inr (.inr h')
    · exact .inr (.inl (TL.ext_tl (List.le_antisymm (List.not_lt.mp h') (List.not_lt.mp h))))
theorem slt_asymm {a b : Str} (h : slt a b) : ¬ slt b a := fun h' => slt_irrefl _ (slt_trans h h')
/-- strictly ascending -/
def Asc (l : List Str) : Prop := l.Pairwise slt
theorem rising_pw : ∀ (p : Str) (l : List Str), risingS p l = true → (p :: l).Pairwise (fun a b => ¬ slt b a)
  | p, [], _ => List.pairwise_singleton _ _
  | p, x :: r, h => by
    simp only [risingS, Bool.and_eq_true, Bool.not_eq_true'] at h
    have ih := rising_pw x r h.2
    have hpx : ¬ slt x p := fun z => by rw [(ltCps_iff _ _).mpr z] at h; exact Bool.noConfusion h.1
    refine List.pairwise_cons.mpr ⟨fun y hy => ?_, ih⟩
    rcases List.mem_cons.mp hy with e | e
    · subst e; exact hpx
    · intro z
      have hxy := (List.pairwise_cons.mp ih).1 y e
      rcases slt_tri x y with q | q | q
      · exact hpx (slt_trans q z)
      · subst q; exact hpx z
      · exact hxy q
theorem Asc.nodup {l : List Str} (h : Asc l) : l.Nodup := h.imp fun q e => by subst e; exact slt_irrefl _ q
/-- ascending lists with the same members are one -/
theorem Asc.ext : ∀ {l m : List Str}, Asc l → Asc m → (∀ x, x ∈ l ↔ x ∈ m) → l = m
  | [], [], _, _, _ => rfl
  | [], y :: m, _, _, h => absurd ((h y).mpr (List.mem_cons_self ..)) List.not_mem_nil
  | x :: l, [], _, _, h => absurd ((h x).mp (List.mem_cons_self ..)) List.not_mem_nil
  | x :: l, y :: m, hl, hm, h => by
    have h1 := List.pairwise_cons.mp hl
    have h2 := List.pairwise_cons.mp hm
    have e : x = y := by
      rcases List.mem_cons.mp ((h x).mp (List.mem_cons_self ..)) with e | e
      · exact e
      · rcases List.mem_cons.mp ((h y).mpr (List.mem_cons_self ..)) with e' | e'
        · exact e'.symm
        · exact absurd (slt_trans (h2.1 x e) (h1.1 y e')) (slt_irrefl _)
    subst e
    rw [Asc.ext h1.2 h2.2 fun z => ?_]
    constructor
    · intro hz
      rcases List.mem_cons.mp ((h z).mp (List.mem_cons_of_mem _ hz)) with e | e
      · subst e; exact absurd (h1.1 _ hz) (slt_irrefl _)
      · exact e
    · intro hz
      rcases List.mem_cons.mp ((h z).mpr (List.mem_cons_of_mem _ hz)) with e | e
      · subst e; exact absurd (h2.1 _ hz) (slt_irrefl _)
      · exact e
/-- one for each -/
def All2 {α β : Type} (R : α → β → Prop) : List α → List β → Prop
  | [], [] => True
  | x :: xs, y :: ys => R x y ∧ All2 R xs ys
  | _, _ => False
theorem All2.at {α β : Type} {R : α → β → Prop} : ∀ {xs : List α} {ys : List β} {i : Nat} {x : α}, All2 R xs ys → xs[i]? = some x → ∃ y, ys[i]? = some y ∧ R x y
  | [], _, _, _, _, e => by simp at e
  | x :: xs, [], _, _, h, _ => False.elim h
  | x :: xs, y :: ys, 0, _, h, e => by cases e; exact ⟨y, rfl, h.1⟩
  | x :: xs, y :: ys, i + 1, _, h, e => All2.at (i := i) h.2 e
theorem All2.length {α β : Type} {R : α → β → Prop} : ∀ {xs : List α} {ys : List β}, All2 R xs ys → xs.length = ys.length
  | [], [], _ => rfl
  | [], _ :: _, h => False.elim h
  | _ :: _, [], h => False.elim h
  | x :: xs, y :: ys, h => congrArg Nat.succ (All2.length h.2)
theorem All2.imp {α β : Type} {R S : α → β → Prop} (k : ∀ x y, R x y → S x y) : ∀ {xs : List α} {ys : List β}, All2 R xs ys → All2 S xs ys
  | [], [], _ => trivial
  | [], _ :: _, h => False.elim h
  | _ :: _, [], h => False.elim h
  | x :: xs, y :: ys, h => ⟨k _ _ h.1, All2.imp k h.2⟩
theorem All2.snoc {α β : Type} {R : α → β → Prop} : ∀ {xs : List α} {ys : List β} {x : α} {y : β}, All2 R xs ys → R x y → All2 R (xs ++ [x]) (ys ++ [y])
  | [], [], _, _, _, h => ⟨h, trivial⟩
  | [], _ :: _, _, _, h, _ => False.elim h
  | _ :: _, [], _, _, h, _ => False.elim h
  | x :: xs, y :: ys, _, _, h, k => ⟨h.1, All2.snoc h.2 k⟩
end Sl
namespace Sl
open PySem PySem.Spec PyProof.Rows L2
/-! ### tests whose answer is told -/
/-- the answer is b, the heap stands -/
def An (t : TT) (σ : L2.St) (H : Hp) (b : Bool) : Prop := ∀ Q : Bool → Hp → Prop, Q b H → t σ H Q
/-- the value is v, the heap stands -/
def Vl (t : TE) (σ : L2.St) (H : Hp) (v : V) : Prop := ∀ Q : VK, Q v H → t σ H Q
section
variable {σ : L2.St} {H : Hp} {t u c : TT} {a b : Bool} {ta tb : TE} {x y z v : V} {D : Ends} {t1 t2 s2 : TS}
theorem An.to (h : An t σ H a) (e : a = b) : An t σ H b := e ▸ h
theorem Vl.to (h : Vl ta σ H x) (e : x = y) : Vl ta σ H y := e ▸ h
end
end Sl
namespace Sl
open PySem PySem.Spec PyProof.Rows L2
/-! ### data of written depth -/
/-- all signs are signs -/
def okS (s : Str) : Prop := ∀ c ∈ TL.tl s, c < 1114112
theorem okS.ok {s : Str} (h : okS s) : PyData.canLay0 (.str s) = true := by
  show PyData.strOk s = true
  unfold PyData.strOk
  rw [Array.all_eq_true']
  intro c hc
  simpa using h c (Array.mem_toList_iff.mpr hc)
end Sl
namespace Sl
open PySem PySem.Spec PyProof.Rows L2
/-! ### rules by K alone (they go into a comprehension's block) -/
def rListOf (K : PySem.W.Frag) : List V → Hp → VK → Prop := fun xs H Q => ∃ p ys, xs = [.ref p] ∧ (SqL K H p ys ∨ SqT K H p ys) ∧ ∀ l, H l = none → Q (.ref l) (upd H l (.lst ys))
def rTupleOf (K : PySem.W.Frag) : List V → Hp → VK → Prop := fun xs H Q => ∃ p ys, xs = [.ref p] ∧ ((SqL K H p ys ∧ ∀ l, H l = none → Q (.ref l) (upd H l (.tup ys))) ∨ (SqT K H p ys ∧ Q (.ref p) H))
def rLenK (K : PySem.W.Frag) : List V → Hp → VK → Prop := fun xs H Q => ∃ x n, xs = [x] ∧ LenV K x H n ∧ Q (.int (n : Nat)) H
section
variable {X : Cx} {K : PySem.W.Frag}
theorem cK_list (e : X.K = K) : CallR X (.type "list") (rListOf K) := by subst e; exact call_list_of
theorem cK_tuple (e : X.K = K) : CallR X (.type "tuple") (rTupleOf K) := by subst e; exact call_tuple_of
theorem cK_len (e : X.K = K) : CallR X (.builtin "len") (rLenK K) := by subst e; exact call_len
theorem cK_isi (e : X.K = K) : CallR X (.builtin "isinstance") (rIsi K) := by subst e; exact call_isi
theorem cK_sortedS (e : X.K = K) : CallR X (.builtin "sorted") (rSortedS K) := by subst e; exact cr_sortedS
theorem xK_list (e : X.K = K) : IxR X (rIxL K) := by subst e; exact ix_list
theorem xK_tup (e : X.K = K) : IxR X (rIxT K) := by subst e; exact ix_tup
theorem iK_list {tg l : Expr} {tl : TE} (e : X.K = K) (hl : PE X l tl) : PI X tg l (iList K tl) := by subst e; exact pi_list hl
theorem iK_tup {tg l : Expr} {tl : TE} (e : X.K = K) (hl : PE X l tl) : PI X tg l (iTup K tl) := by subst e; exact pi_tup hl
end
end Sl
namespace Sl
open PySem PySem.Spec PyProof.Rows L2
/-! ### comparisons of data, membership, sorted: over what reads as data -/
section
variable {X : Cx} {K : PySem.W.Frag}
/-- no dict within, not too deep -/
def pln (d : PyData) : Prop := d.plain = true ∧ d.depth ≤ 32
def rEqP (K : PySem.W.Frag) : R2 := fun x y H Q => ∃ d e, Dp K H x d ∧ Dp K H y e ∧ pln d ∧ pln e ∧ Q (.bl (PyData.eqv d e)) H
def rNeP (K : PySem.W.Frag) : R2 := fun x y H Q => ∃ d e, Dp K H x d ∧ Dp K H y e ∧ pln d ∧ pln e ∧ Q (.bl (!PyData.eqv d e)) H
theorem oP_eq (e : X.K = K) (hu : X.A.units + 64 < cLine) : OpR X (compareOp .Eq) (rEqP K) := by
  subst e
  intro pins s σ H x y v u Q I rx ry h
  obtain ⟨d, e, hd, he, ⟨h1, h3⟩, ⟨h2, _⟩, q⟩ := h
  obtain ⟨as, r1⟩ := Dp.reads I d x v hd rx
  obtain ⟨bs, r2⟩ := Dp.reads I e y u he ry
  exact PySem.SeqAt.eq_plain r1 r2 h1 h2 (by have := Nat.min_le_left d.depth e.depth; omega) ⟨.bl _, H, I, rfl, q⟩
theorem oP_ne (e : X.K = K) (hu : X.A.units + 64 < cLine) : OpR X (compareOp .NotEq) (rNeP K) := by
  subst e
  intro pins s σ H x y v u Q I rx ry h
  obtain ⟨d, e, hd, he, ⟨h1, h3⟩, ⟨h2, _⟩, q⟩ := h
  obtain ⟨as, r1⟩ := Dp.reads I d x v hd rx
  obtain ⟨bs, r2⟩ := Dp.reads I e y u he ry
  exact PySem.SeqAt.ne_plain r1 r2 h1 h2 (by have := Nat.min_le_left d.depth e.depth; omega) ⟨.bl _, H, I, rfl, q⟩
def rInP (K : PySem.W.Frag) (neg : Bool) : R2 := fun x y H Q => ∃ d ds, Dp K H x d ∧ (Dp K H y (.list ds) ∨ Dp K H y (.tuple ds)) ∧ pln d ∧ PyData.plainAll ds = true ∧ Q (.bl (if neg then !(ds.any fun z => PyData.eqv z d) else ds.any fun z => PyData.eqv z d)) H
theorem oP_in (e : X.K = K) (hu : X.A.units + 64 < cLine) : OpR X (compareOp .In) (rInP K false) := by
  subst e
  intro pins s σ H x y v u Q I rx ry h
  obtain ⟨d, ds, hd, he, ⟨h1, h3⟩, h2, q⟩ := h
  obtain ⟨as, r1⟩ := Dp.reads I d x v hd rx
  rcases he with he | he
  · obtain ⟨bs, r2⟩ := Dp.reads I _ y u he ry
    exact PySem.SeqAt.in_list_data r2 r1 h2 h1 (by have := Nat.min_le_right (PyData.depthAll ds) d.depth; omega) ⟨.bl _, H, I, rfl, q⟩
  · obtain ⟨bs, r2⟩ := Dp.reads I _ y u he ry
    exact PySem.SeqAt.in_tuple_data r2 r1 h2 h1 (by have := Nat.min_le_right (PyData.depthAll ds) d.depth; omega) ⟨.bl _, H, I, rfl, q⟩
theorem oP_nin (e : X.K = K) (hu : X.A.units + 64 < cLine) : OpR X (compareOp .NotIn) (rInP K true) := by
  subst e
  intro pins s σ H x y v u Q I rx ry h
  obtain ⟨d, ds, hd, he, ⟨h1, h3⟩, h2, q⟩ := h
  obtain ⟨as, r1⟩ := Dp.reads I d x v hd rx
  rcases he with he | he
  · obtain ⟨bs, r2⟩ := Dp.reads I _ y u he ry
    exact PySem.SeqAt.notIn_list_data r2 r1 h2 h1 (by have := Nat.min_le_right (PyData.depthAll ds) d.depth; omega) ⟨.bl _, H, I, rfl, q⟩
  · obtain ⟨bs, r2⟩ := Dp.reads I _ y u he ry
    exact PySem.SeqAt.notIn_tuple_data r2 r1 h2 h1 (by have := Nat.min_le_right (PyData.depthAll ds) d.depth; omega) ⟨.bl _, H, I, rfl, q⟩
end
end Sl
namespace Sl
open PySem PySem.Spec PyProof.Rows L2
end Sl
namespace Sl
open PySem PySem.Spec PyProof.Rows L2
/-- a, b = .. in a comprehension's block -/
theorem gK_tup {X : Cx} {K : PySem.W.Frag} (n : Nat) {es : List Expr} {k : Nat} {pos : Pos} {t : TGs} (e : X.K = K) (hc : X.calm = true) (h : PGs X es t)
    (hn : (assignEach es X.env).length = n := by rfl) (hst : (assignEach es X.env).findIdx? (·.1) = none := by rfl) : PG X (.Tuple es k pos) (gTup K n t) := e ▸ pg_tup hc h hn hst
end Sl
namespace Sl
open PySem PySem.Spec PyProof.Rows L2
/-! Own classes: their methods behind len, in, operators, subscripts. E tells, by the caller's slots, what is wanted of an error -/
section
variable {X : Cx} {CX : CXT} {k : Nat} {f C : Addr} {fd : FuncData} {ps : List Str} {sp : Sp} {E : L2.St → XK} {dvs : List V} {ds : List Value}
/-- one of these defs run under an Around of the same room -/
theorem own_run {A' : Around} {E' : Value → Shared → Prop} {pins : List (Addr × Obj)} {σ : L2.St} {H : Hp} {s : Shared} {Q : VK} {e1 : XK} {us : List Value} {vs : List V} (F : FnOk X.prog X.w X.K X.mg X.base CX k f fd ps sp) (hr : Room k A')
    (e0 : Env0 X.prog X.w X.K X.mg X.base A' X.stack s H) (hb : Binds X.K fd ps ds) (hd : Vals dvs ds) (hx : ∀ e s', CX X.stack H s e1 e s' → E' e s') (I : Inv X pins σ H s) (r : Vals vs us) (h : sp (vs ++ dvs) H Q e1) :
    wpAny (model X.prog X.w) A' (call (.ref f) us) (EP X pins σ Q) E' s := by
  have r2 : Vals (vs ++ dvs) (us ++ ds) := r.append hd
  have hl : (us ++ ds).length = ps.length := by rw [← r2.length]; exact F.len _ _ _ _ h
  refine wpAny_call (codeAny_mono (F.run A' X.stack s H ⟨us, []⟩ (us ++ ds) (vs ++ dvs) Q e1 hr e0 (hb s us I.kIn hl) r2 h) fun r s' hq => ?_)
  cases r with
  | error e => exact hx e s' hq
  | ok fl =>
    cases fl with
    | ret u => exact I.after hq
    | _ => exact False.elim hq
/-! o - y, y a text or an int; o + p of one class -/
/-- o.m(e, ..), what is raised wished for at the caller's slots -/
def tMethO (C : Addr) (m : Str) (sp : Sp) (dvs : List V) (E : L2.St → XK) (ta : TE) (t : TA) : TE := fun σ H Q => ta σ H fun x H1 => ∃ a dx fs, x = .ref a ∧ H1 a = some (.ins C dx fs) ∧ fs.lookup m = none ∧ t σ H1 fun vs H2 => sp ((x :: vs) ++ dvs) H2 Q (E σ)
theorem pe_methO {pl : Sem Bool} {o e : Expr} {es : List Expr} {ta : TE} {t : TA} {m : Str} {pos apos : Pos} (he : PE X o ta) (c : Cls X.K C) (hm : Meth X.K C m f) (F : FnOk X.prog X.w X.K X.mg X.base CX k f fd ps sp) (hr : Room k X.A) (hb : Binds X.K fd ps ds) (hd : Vals dvs ds) (hx : ∀ σ, PassesAt CX X σ (E σ)) (ha : PA X (e :: es) t)
    (hst : starEach (e :: es) X.env = (false, eval e X.env) :: starEach es X.env := by rfl) (hpl : (backTo pos (starEach es X.env)).any (·.1) = false := by rfl)
    (ht : eval (.Call (.Attribute o m apos) (e :: es) [] pos) X.env = (do
      let ov ← eval o X.env
      standAt apos.atName
      let (f, first) ← holding [ov] (getMethod ov m pl)
      callWith pos f first (backTo pos (starEach (e :: es) X.env)) (backToKw pos (keywordEach [] X.env))) := by rfl) :
    PE X (.Call (.Attribute o m apos) (e :: es) [] pos) (tMethO C m sp dvs E ta t) := by
  refine ⟨fun pins s σ H Q I h => ?_⟩
  refine PySem.W.methodCall_KW (pl := pl) (thn (he.run pins s σ H _ I h) fun u s1 ⟨x, H1, I1, rx, a, dx, fs, ex, ea, l, q⟩ => ?_) ht
  subst ex
  obtain rfl : u = Value.ref a := rx
  refine getmeth_ok I1 ea c hm l ?_
  refine PySem.W.callWith_K (first := [.ref a]) (h₀ := X.base) I.ok.mod.kin hm.kp (thn (ha.run pos pins s1 σ H1 _ I1 q) fun us s2 ⟨vs, H2, I2, r, q2⟩ => ⟨I2.kIn, ?_⟩) hst hpl
  exact own_run (us := .ref a :: us) (vs := .ref a :: vs) F hr I2.env0 hb hd (fun e s' c => hx σ pins H2 s2 e s' I2 c) I2 (.cons rfl r) q2
end
/-! a class held by a local name, made -/
/-! iteration over an object whose __iter__ gives an iterator over a tuple -/
end Sl
namespace Sl
open PySem PySem.Spec PyProof.Rows L2
/-! list(o), o an object whose __iter__ gives an iterator over a tuple and whose __len__ gives a number -/
theorem fnR_ok {P : Program} {w : World} {K : PySem.W.Frag} {mg : Str → Option Value} {base : Heap} {CX : CXT} {k : Nat} {f : Addr} {fd : FuncData} {ps : List Str} {sp : Sp} (F : FnOk P w K mg base CX k f fd ps sp) (hb : Binds K fd ps []) : FnR P w K mg base CX k f sp :=
  (F.raw hb .nil).imp fun vs H Q E h => by rw [List.append_nil]; exact h
end Sl
namespace Sl
open PySem PySem.Spec PyProof.Rows L2
/-! ### C(), no class of it has an __init__ of its own -/
structure MkPl (K : PySem.W.Frag) (C : Addr) : Prop where
  makes : PySem.W.makesIn K C = true
  init : PySem.W.findIn K (.ref C) "__init__" = some (some (.builtin "object.__init__"))
  kp : PySem.W.keepIn K (.ref C) = true
def tMakeP (C : Addr) : TE := fun _ H Q => ∀ x dx, H x = none → H dx = none → dx ≠ x → Q (.ref x) (upd (upd H dx (.own x)) x (.ins C dx []))
section
variable {X : Cx} {C : Addr} {x : Str} {p pos : Pos}
theorem run_makeP {pins : List (Addr × Obj)} {σ : L2.St} {H : Hp} {s : Shared} {Q : VK} (M : MkPl X.K C) (I : Inv X pins σ H s) (h : tMakeP C σ H Q) : wpAny (model X.prog X.w) X.A (call (.ref C) []) (EP X pins σ Q) X.xe s := by
  have I2 := Inv.made (C := C) I
  have Y := PySem.W.makes_of (M := model X.prog X.w) I.kIn M.makes
  have hq := h (s.heap.objs.size + 1) s.heap.objs.size (I.hok.fresh (Nat.le_succ _)) (I.hok.fresh (Nat.le_refl _)) (Nat.ne_of_lt (Nat.lt_succ_self _))
  refine wpAny_call (PySem.W.make_core (R := fun r s' => match r with | .ok (.ret v) => EP X pins σ Q v s' | .ok _ => False | .error e => X.xe e s') Y (PySem.W.looks_findIn I.kIn M.init) (fun self => PySem.W.Looks.of_pure (PySem.W.oi_bind self)) (.inr ⟨rfl, rfl⟩) ?_)
  have o1 : ((s.heap.push PySem.W.emptyDict).push (PySem.W.instObj C s.heap.objs.size)).get? (s.heap.objs.size + 1) = some (PySem.W.instObj C s.heap.objs.size) := by
    have z := Heap.get?_push_size (s.heap.push PySem.W.emptyDict) (o := PySem.W.instObj C s.heap.objs.size) rfl
    rwa [Heap.size_push] at z
  have t1 : PySem.W.Looks (model X.prog X.w) ((s.heap.push PySem.W.emptyDict).push (PySem.W.instObj C s.heap.objs.size)) (typeOf (.ref (s.heap.objs.size + 1))) (.ref C) := (PySem.W.Looks.ld o1).andThen .now
  have t2 : PySem.W.Looks (model X.prog X.w) ((s.heap.push PySem.W.emptyDict).push (PySem.W.instObj C s.heap.objs.size)) (isInstance (.ref (s.heap.objs.size + 1)) (.type "object")) true := t1.andThen (Y.top.keeps fun b o e => Heap.get?_push_of_some _ (Heap.get?_push_of_some _ e))
  refine codeAny_call_builtin PySem.W.oi_plain PySem.W.entry_oi (PySem.W.check_slot PySem.W.oi_kind PySem.W.oi_split t2 (PySem.W.oi_args _) ?_)
  rw [PySem.W.oi_run]
  exact wpAny_pure ⟨rfl, _, _, I2, rvRef _, hq⟩
theorem pe_makeP (M : MkPl X.K C) (hg : Gl X x) (hm : X.mg x = some (.ref C)) (hdb : (x == ("__debug__" : Str)) = false := by decide) : PE X (.Call (.Name x p) [] [] pos) (tMakeP C) := by
  refine ⟨fun pins s σ H Q I h => ?_⟩
  refine wpAny_Call_Name_kw (ld_glob I hg hm ?_ hdb)
  exact PySem.W.callWith_K0 I.kIn M.kp (run_makeP M I h)
end
/-! ### C().m(e, ..): nothing is asked of the receiver -/
theorem ht_call {id m : Str} {p0 p1 apos pos : Pos} {es : List Expr} {env : Env} {pl : Sem Bool} (hne : (id != ("super" : Str)) = true)
    (h : ∀ ov, methodCall (.Call (.Name id p0) [] [] p1) m apos pos env ov (es.length + ([] : List Keyword).length) (backTo pos (starEach es env)) (backToKw pos (keywordEach [] env)) = (do
      let (f, first) ← holding [ov] (getMethod ov m pl)
      callWith pos f first (backTo pos (starEach es env)) (backToKw pos (keywordEach [] env))) := by intro _; rfl) :
    eval (.Call (.Attribute (.Call (.Name id p0) [] [] p1) m apos) es [] pos) env = (do
      let ov ← eval (.Call (.Name id p0) [] [] p1) env
      standAt apos.atName
      let (f, first) ← holding [ov] (getMethod ov m pl)
      callWith pos f first (backTo pos (starEach es env)) (backToKw pos (keywordEach [] env))) := mcall_of (abase_call hne) h
end Sl
namespace Sl
open PySem PySem.Spec PyProof.Rows L2
end Sl
namespace Sl
open PySem PySem.Spec PyProof.Rows L2 NdefX
/-! ### a and b where a is looked at with the activation known -/
section
variable {M : Model} {A : Around} {c : Code} {E : Value → Shared → Prop} {s : Shared} {env : Env}
theorem at_and {x y : Expr} {rest : List Expr} {pos : Pos} {Q : Value → Shared → Prop}
    (h : PySem.wpAt M A c (eval x env) (fun v s1 => wpAny M A (truthy v) (fun t s2 => if t then wpAny M A (eval (.BoolOp .And (y :: rest) pos) env) Q E s2 else Q v s2) E s1) E s) :
    PySem.wpAt M A c (eval (.BoolOp .And (x :: y :: rest) pos) env) Q E s := by
  show PySem.wpAt M A c (do
    let v ← eval x env
    standAt pos
    let t ← holding [v] (truthy v)
    match BoolOp.And, t with
    | .And, false | .Or, true => pure v
    | _, _ => boolOp pos .And (evalEach (y :: rest) env)) Q E s
  refine PySem.wpAt_bind (PySem.wpAt_mono h (fun v s1 h1 => PySem.wpAt_of_wpAny (wpAny_bind (wpAny_standAt (wpAny_bind (wpAny_holding (wpAny_mono h1 (fun t s2 h2 => ?_) fun _ _ z => z)))))) fun _ _ z => z)
  cases t with
  | true => exact h2
  | false => exact wpAny_pure h2
end
/-! ### super().m(..) -/
/-- what a method has that says super().m(..): its class D, the cell cc of it, the record cda of its code; C the instance's class, g the next m behind D -/
structure SupK (K : PySem.W.Frag) (P : Program) (C D cc cda : Addr) (m : Str) (g : Addr) : Prop where
  cell : ∃ cl cld csl, K.lookup cc = some ⟨cl, cld, .cell (some (.ref D)), csl⟩
  code : ∃ ccl cdd vs ccs file tf, K.lookup cda = some ⟨ccl, cdd, .fields vs, ccs⟩ ∧ vs[2]? = some (.str file tf) ∧ ((P.main.file : Str) == file) = true
  cD : (PySem.W.clsIn K D).isSome = true
  mro : PySem.W.mroIn K C (.ref D) = some true
  any : PySem.W.nsIn K cStatics "thirdparty.any" = some none
  sup : PySem.W.ks_superIn K C D m = some (some (.ref g))
  ty : PySem.W.typeIn K (.ref g) = some (.type "function")
  fi : PySem.W.fnIn K g = true
  top : (P.main.scope.names.lookup ("super" : Str)).isSome = false
section
variable {X : Cx} {CX : CXT} {k : Nat} {pins : List (Addr × Obj)} {σ : L2.St} {H : Hp} {s : Shared}
/-- the call of a bound method's record, of any self -/
theorem run_bm {q g : Addr} {self : V} {sv : Value} {sp : Sp} {E : XK} {Q : VK} {us : List Value} {vs : List V} (F : FnR X.prog X.w X.K X.mg X.base CX k g sp) (hr : Room k X.A) (hx : Passes CX X E) (I : Inv X ((q, PySem.W.methodObj (.ref g) sv) :: pins) σ H s)
    (rs : RelV self sv) (r : Vals vs us) (h : sp (self :: vs) H Q E) : wpAny (model X.prog X.w) X.A (call (.ref q) us) (EP X pins σ Q) X.xe s := by
  have z := wpAny_call (PySem.W.method_call (ClX.pin_at I) (run_fnR (us := sv :: us) (vs := self :: vs) F hr hx I (.cons rs r) h))
  exact thn z fun _ _ y => ClX.unpinE y
/-- the argument list evaluated, the record kept -/
theorem callwith_bm {pos : Pos} {e : Expr} {es : List Expr} {q g : Addr} {sv : Value} {Q : Value → Shared → Prop} {E : Value → Shared → Prop} {A : Around} (I : Inv X ((q, PySem.W.methodObj (.ref g) sv) :: pins) σ H s) (hb : X.base.get? q = none) (hf : PySem.W.fnIn X.K g = true)
    (h : wpAny (model X.prog X.w) A (spliced (backTo pos (starEach (e :: es) X.env))) (fun vs s1 => PySem.W.MethP X.K q g sv s1.heap ∧ wpAny (model X.prog X.w) A (call (.ref q) vs) Q E s1) E s)
    (he : starEach (e :: es) X.env = (false, eval e X.env) :: starEach es X.env) (hpl : (backTo pos (starEach es X.env)).any (·.1) = false) :
    wpAny (model X.prog X.w) A (callWith pos (.ref q) [] (backTo pos (starEach (e :: es) X.env)) []) Q E s := by
  have hq := ClX.pin_at I
  have hL : q ≠ X.env.locals := (I.pin _ (List.mem_append_right _ List.mem_cons_self)).2.2.1
  exact PySem.W.callWith_M (first := []) I.ok.mod.kin (news_at hL hb hq) List.mem_cons_self hf h he hpl
end
/-- super().m(e, ..), the activation known -/
theorem at_super {X : Cx} {CX : CXT} {k : Nat} {C D cc cda x dx f g : Addr} {fs : List (Str × V)} {m : Str} {of : Obj} {fd : FuncData} {ar : Arg} {sp : Sp} {E : XK} {body : List Stmt} {e : Expr} {es : List Expr} {t : TA} {p0 p1 apos pos : Pos} {pl : Sem Bool} {σ : L2.St} {H : Hp} {s : Shared} {pins : List (Addr × Obj)} {Q : VK}
    (S : SupK X.K X.prog C D cc cda m g) (F : FnR X.prog X.w X.K X.mg X.base CX k g sp) (hr : Room k X.A) (hx : Passes CX X E) (ha : PA X (e :: es) t) (I : Inv X pins σ H s)
    (hks : X.env.kindOf "super" = some .globalImplicit) (hkc : X.env.kindOf "__class__" = some .free) (hcl : X.env.cells.lookup ("__class__" : Str) = some cc) (hfu : X.env.func = some f) (hf : X.K.lookup f = some of) (hfd : of.data = .func fd) (hco : X.env.code = .ref cda)
    (hp : (fd.params.posonlyargs ++ fd.params.args).head? = some ar) (hka : X.env.kindOf ar.arg = some .local) (hm : X.mg "super" = none) (hb : bootBuiltins "super" = some (.type "super")) (hat : (m == ("__class__" : Str)) = false)
    (hN : X.N[0]? = some ar.arg) (h0 : σ[0]? = some (some (.ref x))) (hix : H x = some (.ins C dx fs)) (hq : t σ H fun ws H1 => sp (.ref x :: ws) H1 Q E)
    (hst : starEach (e :: es) X.env = (false, eval e X.env) :: starEach es X.env) (hpl : (backTo pos (starEach es X.env)).any (·.1) = false)
    (het : eval (.Call (.Attribute (.Call (.Name "super" p0) [] [] p1) m apos) (e :: es) [] pos) X.env = (do
      let ov ← attributeBase (.Call (.Name "super" p0) [] [] p1) m X.env (eval (.Call (.Name "super" p0) [] [] p1) X.env)
      standAt apos.atName
      let (f, first) ← holding [ov] (getMethod ov m pl)
      callWith pos f first (backTo pos (starEach (e :: es) X.env)) [])) :
    PySem.wpAt (model X.prog X.w) X.A (.func body X.env) (eval (.Call (.Attribute (.Call (.Name "super" p0) [] [] p1) m apos) (e :: es) [] pos) X.env) (EP X pins σ Q) X.xe s := by
  obtain ⟨cl, cld, csl, hcell⟩ := S.cell
  obtain ⟨ccl, cdd, vs, ccs, file, tf, hcode, hvs, hfile⟩ := S.code
  obtain ⟨cdD, hD⟩ := Option.isSome_iff_exists.mp S.cD
  have KX := I.kIn
  obtain ⟨mb, hb1, hb2⟩ := I.mod.blt
  obtain ⟨mA, O, _, _, _, _⟩ := ins_get I.hok hix
  obtain ⟨od, J, hl⟩ := O.look
  obtain ⟨oD, hD1, hD2⟩ : ∃ oD, s.heap.get? D = some oD ∧ oD.data = .cls cdD := by
    unfold PySem.W.clsIn at hD
    split at hD
    · rename_i ho; cases hD; exact ⟨_, KX _ _ ho, rfl⟩
    · cases hD
  obtain ⟨mL, hNs, hloc⟩ := I.loc
  obtain ⟨u, ru, hlook⟩ := hloc 0 ar.arg (.ref x) hN h0 (.inl hka)
  obtain rfl : u = Value.ref x := ru
  have hself : mL ar.arg = some (.ref x) := by
    rcases hlook with ⟨_, h⟩ | ⟨h | h, _⟩
    · exact h
    · rw [hka] at h; cases h
    · rw [hka] at h; cases h
  refine ks_wpAt_MethodCall (pl := pl) ?_ het
  refine ks_wpAt_super_base hks hkc hat hfu (KX _ _ hf) hfd hp hco (KX _ _ hcode) rfl hvs hfile S.top ?_
  refine PySem.W.ks_loadName_global I.ok.kind hks (Calls.loadGlobal_builtin (by rw [I.ok.glob]; exact I.mod.glob.keeps I.bk) hm (by rw [I.ok.blt]; exact hb1.keeps I.bk) ((hb2 "super" (by decide)).trans hb) ⟨rfl, ?_⟩)
  refine wpAny_loadName_free I.ok.kind hkc hcl ⟨_, KX _ _ hcell, rfl⟩ ?_
  refine wpAny_loadName_local I.ok.kind hka hNs hself ?_
  refine ks_wpAny_isType_cls hD1 hD2 ⟨rfl, ?_⟩
  refine ks_wpAny_call_super hD1 hD2 J.at_ J.cls (fun c e => ?_) (PySem.W.looks_mroIn KX S.mro) (fun h' e' kp => ?_)
  · have z := J.no
    unfold PySem.W.notCls at z
    rw [e] at z
    exact Bool.noConfusion z
  have I1 := ClX.pin_new (t' := s.toks) I kp (Nat.le_refl _) e' (fun v z => nomatch z)
  have KX1 : X.K.In h' := I1.kIn
  have J1 : PySem.W.InstAt h' x (PySem.W.instObj C dx) C (some od) := by
    obtain ⟨j1, j2, j3, j4⟩ := J
    exact ⟨kp _ _ j1, j2, j3, kp _ _ j4⟩
  cases hc : PySem.W.clsIn X.K C with
  | none =>
    have z := S.sup
    unfold PySem.W.ks_superIn at z; rw [hc] at z; cases z
  | some cd =>
    have z := S.sup
    unfold PySem.W.ks_superIn at z
    rw [hc] at z
    obtain ⟨og, hog, hogc⟩ : ∃ og, h'.get? g = some og ∧ og.cls = .type "function" := by
      have z2 : (X.K.lookup g).map (·.cls) = some (.type "function") := S.ty
      cases e3 : X.K.lookup g with
      | none => rw [e3] at z2; cases z2
      | some og => rw [e3] at z2; exact ⟨og, KX1 _ _ e3, Option.some.inj z2⟩
    refine ks_wpAny_getMethod_super (l₀ := cd.mro) e' (PySem.W.looks_opaque KX1 S.any) ?_ rfl KX1 z hog hogc (PySem.W.ks_ne KX1 J1 hc) hat ?_
    · exact fun A Q E s kk q => wpAny_bind ((PySem.W.looks_clsIn KX1 hc) A _ E s kk (wpAny_pure q))
    have hbase := ClX.base_none I1 (a := h'.objs.size) (Nat.le_refl _)
    have I2 := ClX.pin_new (o := PySem.W.methodObj (.ref g) (.ref x)) (t' := s.toks + 1) I1 (h' := h'.push (PySem.W.methodObj (.ref g) (.ref x))) (fun _ _ y => Heap.get?_push_of_some _ y) (Nat.le_refl _) (Heap.get?_push_size h' rfl) (fun v y => nomatch y)
    refine callwith_bm I2 hbase S.fi (thn (ha.run pos _ _ σ H _ I2 hq) fun us s2 ⟨ws, H1, I3, r3, q3⟩ => ⟨⟨ClX.pin_at I3, I3.kIn⟩, ?_⟩) hst hpl
    refine thn (run_bm F hr hx I3 (rvRef x) r3 q3) fun _ _ y => ClX.unpinE y
/-! ### a method whose body is: return super().m(e, ..) and ..-/
/-- a def of the text that closes over __class__ -/
structure FunC (K : PySem.W.Frag) (x qual : Str) (st : Stmt) (cc cda f : Addr) (fd : FuncData) : Prop where
  ex : ∃ (oc : Value) (od : Option Addr) (kV doc pm : Value) (an : Option Addr) (ct : Value) (osl : Array (Option Value)),
    fd = PySem.W.ksFn x qual (defArgs st) (defBody st) (defScope st) .none kV doc pm an (.ref cda) ct cc ∧ K.lookup f = some ⟨oc, od, .func fd, osl⟩ ∧ PySem.W.codeIn K (.ref cda) qual = true
  kp : PySem.W.keepIn K (.ref f) = true
theorem FunC.binds {K : PySem.W.Frag} {x qual : Str} {st : Stmt} {cc cda f : Addr} {fd : FuncData} {ps : List Str} (F : FunC K x qual st cc cda f fd)
    (h : ∀ (kV doc pm : Value) (an : Option Addr) (cdv ct : Value) (us : List Value), us.length = ps.length → bindArgs (PySem.W.ksFn x qual (defArgs st) (defBody st) (defScope st) .none kV doc pm an cdv ct cc) ⟨us, []⟩ = pure (ps.zip us)) : Binds K fd ps [] := by
  obtain ⟨oc, od, kV, doc, pm, an, ct, osl, rfl, lk, hcd⟩ := F.ex
  exact .all (h kV doc pm an (.ref cda) ct)
theorem look1 {a y : Str} {b c : Addr} (h : List.lookup y [(a, b)] = some c) : y = a ∧ c = b := by
  rw [List.lookup_cons] at h
  split at h
  · rename_i e
    cases h
    exact ⟨beq_iff_eq.mp e, rfl⟩
  · cases h
def nfOf (x qual : Str) (st : Stmt) (cc cda : Addr) : NF := ⟨x, qual, defArgs st, defBody st, defScope st, [("__class__", cc)], cda⟩
section
variable {P : Program} {w : World} {K : PySem.W.Frag} {mg : Str → Option Value} {base : Heap} {CX : CXT} {k : Nat} {C D cc cda f g : Addr} {x qual m a0 : Str} {st : Stmt} {fd : FuncData} {N ps : List Str} {sp spm : Sp} {e r : Expr} {es rest : List Expr} {p0 p1 apos pos p4 p5 : Pos}
/-- the rule: the reading is that of the call's arguments, then of g's promise, then of the rest -/
theorem FunC.okAnd (Fc : FunC K x qual st cc cda f fd) (S : NScope N ps ["__class__"] (defScope st)) (U : SupK K P C D cc cda m g) (G : FnR P w K mg base CX0 k g spm)
    (hbd : defBody st = [.Return (some (.BoolOp .And (.Call (.Attribute (.Call (.Name "super" p0) [] [] p1) m apos) (e :: es) [] pos :: r :: rest) p4)) p5])
    (hb : Binds K fd ps []) (len : ∀ vs H Q E, sp vs H Q E → vs.length = ps.length)
    (hsup : (defScope st).names.lookup ("super" : Str) = some .globalImplicit) (hm : mg "super" = none) (hbt : bootBuiltins "super" = some (.type "super")) (hat : (m == ("__class__" : Str)) = false)
    (ha0 : ((defArgs st).posonlyargs ++ (defArgs st).args).head?.map (·.arg) = some a0) (hp0 : ps[0]? = some a0)
    (hbody : ∀ (A : Around) (outer : List Env) (s : Shared) (H : Hp) (vs : List V) (Q : VK) (E : XK), Room k (A.deeper (envF (nfOf x qual st cc cda) f s.heap.objs.size)) → sp vs H Q E →
      ∃ (a dx : Addr) (fs : List (Str × V)) (t : TA) (tr : TE), vs[0]? = some (.ref a) ∧ H a = some (.ins C dx fs) ∧ PA (ncx CX0 P w K mg base N (nfOf x qual st cc cda) f A outer s H E) (e :: es) t ∧
        PE (ncx CX0 P w K mg base N (nfOf x qual st cc cda) f A outer s H E) (.BoolOp .And (r :: rest) p4) tr ∧
        t (startF N vs [some (.ref D)]) H (fun ws H1 => spm (.ref a :: ws) H1 (fun v H2 => ∃ c, v = .bl c ∧ if c = true then tr (startF N vs [some (.ref D)]) H2 Q else Q (.bl false) H2) E0))
    {pl : Env → Sem Bool} (het : ∀ env, eval (.Call (.Attribute (.Call (.Name "super" p0) [] [] p1) m apos) (e :: es) [] pos) env = (do
      let ov ← attributeBase (.Call (.Name "super" p0) [] [] p1) m env (eval (.Call (.Name "super" p0) [] [] p1) env)
      standAt apos.atName
      let (f, first) ← holding [ov] (getMethod ov m (pl env))
      callWith pos f first (backTo pos (starEach (e :: es) env)) []))
    (hst : ∀ env, starEach (e :: es) env = (false, eval e env) :: starEach es env) (hpl : ∀ env, (backTo pos (starEach es env)).any (·.1) = false) :
    FnOk P w K mg base CX0 (k + 1) f fd ps sp := by
  obtain ⟨oc, od, kV, doc, pm, an, ct, osl, rfl, lk, hcd⟩ := Fc.ex
  refine ⟨len, fun A outer s H args us vs Q E hr e0 hb' rv hsp => ?_⟩
  have hl := len _ _ _ _ hsp
  have KX : K.In s.heap := e0.mod.kin.keeps fun b o z => (e0.bs b o z).1
  have lim : s.heap.NoLimit := e0.mod.nolimit.keeps fun b o z => (e0.bs b o z).1
  obtain ⟨cl, cld, csl, hcell⟩ := U.cell
  refine codeAny_call_function hr.depth (KX _ _ lk) rfl S.co S.gen rfl (PySem.W.codeRec_of KX hcd) (hb' _ _ _ _ ?_)
  refine wpAny_newFunctionEnv S.nocell (fun ⟨n, _⟩ hy => S.par n (List.of_mem_zip hy).1) (fun h1 hns hsb => ⟨lim.fresh _ hsb, ?_⟩) S.kind
  show codeAny _ _ (.func (defBody st) (envF (nfOf x qual st cc cda) f s.heap.objs.size)) _ _
  refine ks_codeAny_funcAt ?_
  have kp : ∀ b o, s.heap.get? b = some o → h1.get? b = some o := fun b o z => hsb.extBut b o (Nat.ne_of_lt (Heap.lt_size z)) (Heap.get?_push_of_some _ z)
  have hC : CellsAt [("__class__", cc)] ["__class__"] [some (.ref D)] s.heap H := by
    have hcs := KX _ _ hcell
    have hnn : H cc = none := (e0.bs _ _ (e0.mod.kin _ _ hcell)).2
    refine ⟨rfl, fun y c z => ?_, fun y y2 c z z2 => (look1 z).1.trans (look1 z2).1.symm, fun i y z => ?_⟩
    · obtain ⟨_, rfl⟩ := look1 z
      exact ⟨hnn, _, _, hcs, rfl⟩
    · have hy : y = "__class__" ∧ i = 0 := by
        cases i with
        | zero => exact ⟨(Option.some.inj z).symm, rfl⟩
        | succ i => cases z
      obtain ⟨rfl, rfl⟩ := hy
      exact ⟨cc, rfl, fun v hv => ⟨.ref D, by cases hv; exact rvRef D, _, hcs, rfl⟩⟩
  have I : Inv (ncx CX0 P w K mg base N (nfOf x qual st cc cda) f A outer s H E) [] (startF N vs [some (.ref D)]) H { s with heap := h1, toks := s.toks + (ps.zip us).length } := inv_startN S hr.hd e0 hl rv hC hns kp
  obtain ⟨a, dx, fs, t, tr, h0, hix, ht, htr, hq⟩ := hbody A outer s H vs Q E (hr.deeper _) hsp
  rw [hbd]
  obtain ⟨ar, har, hara⟩ : ∃ ar, ((defArgs st).posonlyargs ++ (defArgs st).args).head? = some ar ∧ ar.arg = a0 := by
    cases z : ((defArgs st).posonlyargs ++ (defArgs st).args).head? with
    | none => rw [z] at ha0; cases ha0
    | some ar => rw [z] at ha0; exact ⟨ar, rfl, Option.some.inj ha0⟩
  have hN0 : N[0]? = some a0 := by
    have z := S.pre
    have z2 : (N.take (ps.length + 1))[0]? = some a0 := by
      rw [show N.take (ps.length + 1) = ps ++ [("__class__" : Str)] from z, List.getElem?_append_left (List.getElem?_eq_some_iff.mp hp0).1]
      exact hp0
    rw [List.getElem?_take_of_lt (by omega)] at z2
    exact z2
  have hs0 : (startF N vs [some (.ref D)])[0]? = some (some (.ref a)) := by
    unfold startF
    cases vs with
    | nil => cases h0
    | cons v vs => cases h0; rfl
  have hka : (defScope st).names.lookup a0 = some .local := S.par a0 (List.mem_of_getElem? hp0)
  have hQ := fun body => at_super (body := body) (X := (ncx CX0 P w K mg base N (nfOf x qual st cc cda) f A outer s H E)) (p0 := p0) (p1 := p1) (apos := apos) (pos := pos) (pl := _) (fd := _) (of := _) U G (hr.deeper _) pass0 ht I hsup (S.frk _ (by simp)) rfl rfl lk rfl rfl har (hara ▸ hka) hm hbt hat (hara ▸ hN0) hs0 hix hq (hst _) (hpl _) (het _)
  have fin : ∀ {σ' : L2.St} {H' : Hp} {v : V} {u : Value} {s' : Shared}, Inv (ncx CX0 P w K mg base N (nfOf x qual st cc cda) f A outer s H E) [] σ' H' s' → L2.RelV v u → Q v H' → CE outer P w H s Q u s' :=
    fun {σ' H' v u s'} J rv q => ⟨v, H', J.os, J.bare, J.base, J.hok, rv, q⟩
  refine ks_wpAt_execs_cons (ks_wpAt_Return_some (at_and (PySem.wpAt_mono (hQ _) (fun u s1 hu => ?_) fun e s1 z => z)))
  obtain ⟨v, H1, I1, rv1, c, rfl, q1⟩ := hu
  cases rv1
  refine wpAny_truthy_bool ?_
  cases c with
  | true =>
    refine thn (htr.run [] _ _ H1 _ I1 q1) fun u s2 hu => ?_
    obtain ⟨v, H2, J, rv2, q2⟩ := hu
    exact fin J rv2 q2
  | false => exact fin (v := .bl false) I1 (rvBl false) q1
end
end Sl
namespace Sl
open PySem PySem.Spec PyProof.Rows L2
/-- a built-in function with keywords, by its tree -/
theorem tree_kw {prog : Program} {w : World} {A : Around} {E : Value → Shared → Prop} {s : Shared} {id : String} {b : Builtin} {us : List Value} {kw : List (Str × Value)} {Q : Value → Shared → Prop} (hk : builtinKind id = none) (hp : plainId id = true) (hb : entryFor table id = some b) (ha : argsOk id ⟨us, kw⟩)
    (hc : wpAny (model prog w) A.in1 (b ⟨us, kw⟩) (fun fin s' => match fin with | .done f => (match (Except.ok f : Result) with | .ok (.ret v) => Q v s' | .ok _ => False | .error e => E e s') | .again c' => c'.quiet = true ∧ codeAny (model prog w) A c' (fun r s' => match r with | .ok (.ret v) => Q v s' | .ok _ => False | .error e => E e s') s') E s) :
    wpAny (model prog w) A (call (.builtin id) us kw) Q E s := by
  refine wpAny_call (codeAny_call_builtin hp hb ?_); simp only [checkBuiltinCall, hk]
  cases e : Manifest.signature? id with
  | none => exact wpAny_pure hc
  | some g =>
    have z : Bind.checkArgs id g ⟨us, kw⟩ = pure () := by simpa only [argsOk, e] using ha
    simp only [z]
    exact wpAny_pure hc
/-! ### min(xs, default=d) -/
section
variable {prog : Program} {w : World} {A : Around} {R : Result → Shared → Prop} {it : Addr} {fp wr : List Addr} {n : Nat} {Pv : Nat → Value → Prop} {St : Nat → Heap → Prop} {kw : List (Str × Value)}
theorem mind_loop (Wk : Walks prog w A.in1 it fp wr n Pv St) (bt : Nat → Nat → Bool) (cmp : CmpOf prog w A.in1 .Lt Pv bt) (S : Addr) (nf : S ∉ fp) :
    ∀ (r i : Nat) (s : Shared) (u : Value) (c : Nat), n - (i + 1) = r → i + 1 ≤ n → St (i + 1) s.heap → Pv (argBest bt i) u → s.heap.get? S = some { cls := .type "list", dict := none, data := .seq #[u, u] c, slots := #[] } →
      (∀ v h' tk, Pv (argBest bt (n - 1)) v → (∀ b o, b ∉ wr → b ≠ S → s.heap.get? b = some o → h'.get? b = some o) → R (.ok (.ret v)) { s with heap := h', toks := tk }) →
      codeAny (model prog w) A (.builtin "min.loop" ⟨[.ref it, .none, .ref S], kw⟩) R s := by
  have nw : S ∉ wr := fun z => nf (Wk.sub _ z)
  have nm : (toString "min" ++ toString ".loop" : String) = "min.loop" := by decide
  intro r
  induction r with
  | zero =>
    intro i s u c e1 e2 st pu hs out
    have en : i + 1 = n := by omega
    refine codeAny_builtin PySem.F.entry_min_loop ?_; rw [Around.under_plainId PySem.F.plain_min_loop _]
    show wpAny _ A.in1 (seqItems? (.ref S) >>= _) _ _ s; refine wpAny_bind (wpAny_seqItems hs rfl ?_)
    show wpAny _ A.in1 (tryCatch (pyNext (.ref it)) _ >>= _) _ _ s; refine wpAny_bind (wpAny_tryCatch (Wk.done s _ _ (en ▸ st) fun h' tk kk => ?_))
    have hs2 := kk S _ nw hs
    show wpAny _ A.in1 (updateSeq S (fun _ => #[]) >>= _) _ _ _; refine wpAny_bind (wpAny_updateSeq hs2 rfl (wpAny_bind (wpAny_letGo (wpAny_pure ?_))))
    exact out u _ tk (by rw [← en]; exact pu) fun b o hbw hbS e => (Heap.get?_update_other _ _ (Ne.symm hbS)).trans (kk b o hbw e)
  | succ r ih =>
    intro i s u c e1 e2 st pu hs out
    have lt : i + 1 < n := by omega
    refine codeAny_builtin PySem.F.entry_min_loop ?_; rw [Around.under_plainId PySem.F.plain_min_loop _]
    show wpAny _ A.in1 (seqItems? (.ref S) >>= _) _ _ s; refine wpAny_bind (wpAny_seqItems hs rfl ?_)
    show wpAny _ A.in1 (tryCatch (pyNext (.ref it)) _ >>= _) _ _ s; refine wpAny_bind (wpAny_tryCatch (Wk.item (i + 1) s _ _ lt st fun v h' tk pv st2 kk => ?_))
    have hs2 := kk S _ nw hs
    show wpAny _ A.in1 (tryCatch (holding [v, v] (richCompare .Lt v u >>= _)) _ >>= _) _ _ _
    refine wpAny_bind (wpAny_tryCatch (wpAny_holding (wpAny_bind (cmp (i + 1) (argBest bt i) v u _ _ _ pv pu (wpAny_bind (wpAny_holding (wpAny_truthy_bool (wpAny_bind (wpAny_letGo (wpAny_pure ?_))))))))))
    cases hb : bt (i + 1) (argBest bt i) with
    | true =>
      simp only [if_true]; refine wpAny_bind (wpAny_updateSeq hs2 rfl (wpAny_bind (wpAny_letGo ?_))); rw [nm]
      refine wpAny_pure ⟨plainId_quiet PySem.F.plain_min_loop _, ih (i + 1) _ v _ (by omega) lt (Wk.frame _ _ _ st2 fun b hbf o e => ?_) (by simp only [argBest, hb, if_true]; exact pv) (Heap.get?_update_self _ hs2 rfl) fun v2 h2 tk2 pv2 kk2 => ?_⟩
      · exact (Heap.get?_update_other _ _ (fun z : S = b => nf (by rw [z]; exact hbf))).trans e
      · exact out v2 h2 tk2 pv2 fun b o hbw hbS e => kk2 b o hbw hbS ((Heap.get?_update_other _ _ (Ne.symm hbS)).trans (kk b o hbw e))
    | false =>
      simp only [Bool.false_eq_true, if_false]; refine wpAny_bind (wpAny_letGo ?_); rw [nm]
      refine wpAny_pure ⟨plainId_quiet PySem.F.plain_min_loop _, ih (i + 1) _ u c (by omega) lt st2 (by simp only [argBest, hb, Bool.false_eq_true, if_false]; exact pu) hs2 fun v2 h2 tk2 pv2 kk2 => ?_⟩
      exact out v2 h2 tk2 pv2 fun b o hbw hbS e => kk2 b o hbw hbS (kk b o hbw e)
theorem mind_first (Wk : Walks prog w A.in1 it fp wr n Pv St) (bt : Nat → Nat → Bool) (cmp : CmpOf prog w A.in1 .Lt Pv bt) (S : Addr) (nf : S ∉ fp) (hn : 0 < n) {s : Shared} {c : Nat} (st : St 0 s.heap) (hs : s.heap.get? S = some { cls := .type "list", dict := none, data := .seq #[] c, slots := #[] })
    (out : ∀ v h' tk, Pv (argBest bt (n - 1)) v → (∀ b o, b ∉ wr → b ≠ S → s.heap.get? b = some o → h'.get? b = some o) → R (.ok (.ret v)) { s with heap := h', toks := tk }) :
    codeAny (model prog w) A (.builtin "min.loop" ⟨[.ref it, .none, .ref S], kw⟩) R s := by
  have nw : S ∉ wr := fun z => nf (Wk.sub _ z)
  have nm : (toString "min" ++ toString ".loop" : String) = "min.loop" := by decide
  refine codeAny_builtin PySem.F.entry_min_loop ?_; rw [Around.under_plainId PySem.F.plain_min_loop _]
  show wpAny _ A.in1 (seqItems? (.ref S) >>= _) _ _ s; refine wpAny_bind (wpAny_seqItems hs rfl ?_)
  show wpAny _ A.in1 (tryCatch (pyNext (.ref it)) _ >>= _) _ _ s; refine wpAny_bind (wpAny_tryCatch (Wk.item 0 s _ _ hn st fun v h' tk pv st2 kk => ?_))
  have hs2 := kk S _ nw hs
  show wpAny _ A.in1 (updateSeq S (fun _ => #[v, v]) >>= _) _ _ _; refine wpAny_bind (wpAny_updateSeq hs2 rfl ?_); rw [nm]
  refine wpAny_pure ⟨plainId_quiet PySem.F.plain_min_loop _, mind_loop Wk bt cmp S nf _ 0 _ v _ rfl hn (Wk.frame _ _ _ st2 fun b hbf o e => ?_) pv (Heap.get?_update_self _ hs2 rfl) fun v2 h2 tk2 pv2 kk2 => ?_⟩
  · exact (Heap.get?_update_other _ _ (fun z : S = b => nf (by rw [z]; exact hbf))).trans e
  · exact out v2 h2 tk2 pv2 fun b o hbw hbS e => kk2 b o hbw hbS ((Heap.get?_update_other _ _ (Ne.symm hbS)).trans (kk b o hbw e))
/-- nothing to be walked: the default -/
theorem mind_none (Wk : Walks prog w A.in1 it fp wr 0 Pv St) (S : Addr) (nf : S ∉ fp) {s : Shared} {c : Nat} {d : Value} (st : St 0 s.heap) (hs : s.heap.get? S = some { cls := .type "list", dict := none, data := .seq #[] c, slots := #[] })
    (out : ∀ h' tk, (∀ b o, b ∉ wr → b ≠ S → s.heap.get? b = some o → h'.get? b = some o) → R (.ok (.ret d)) { s with heap := h', toks := tk }) :
    codeAny (model prog w) A (.builtin "min.loop" ⟨[.ref it, .none, .ref S], [("default", d)]⟩) R s := by
  refine codeAny_builtin PySem.F.entry_min_loop ?_; rw [Around.under_plainId PySem.F.plain_min_loop _]
  show wpAny _ A.in1 (seqItems? (.ref S) >>= _) _ _ s; refine wpAny_bind (wpAny_seqItems hs rfl ?_)
  show wpAny _ A.in1 (tryCatch (pyNext (.ref it)) _ >>= _) _ _ s; refine wpAny_bind (wpAny_tryCatch (Wk.done s _ _ st fun h' tk kk => ?_))
  show wpAny _ A.in1 (PySem.rule _ >>= fun _ => ret d) _ _ _
  exact wpAny_bind (wpAny_rule (wpAny_pure (out h' tk fun b o hbw _ e => kk b o hbw e)))
end
section
variable {prog : Program} {w : World} {A : Around} {E : Value → Shared → Prop} {s : Shared}
theorem mind_args (a d : Value) : argsOk "min" ⟨[a], [("default", d)]⟩ := by unfold argsOk; kernel_rfl
theorem mind_call {x d : Value} {Q : Value → Shared → Prop}
    (h : wpAny (model prog w) A.in1 (pyIter x) (fun i s2 => ∃ it fp wr n Pv St bt, i = .ref it ∧ Walks prog w A.in1 it fp wr n Pv St ∧ St 0 s2.heap ∧ (∀ b ∈ fp, b < s2.heap.objs.size) ∧ CmpOf prog w A.in1 .Lt Pv bt ∧
      (n = 0 → ∀ h' tk, (∀ b o, b ∉ wr → s2.heap.get? b = some o → h'.get? b = some o) → Q d { s2 with heap := h', toks := tk }) ∧
      (0 < n → ∀ v h' tk, Pv (argBest bt (n - 1)) v → (∀ b o, b ∉ wr → s2.heap.get? b = some o → h'.get? b = some o) → Q v { s2 with heap := h', toks := tk })) E s) :
    wpAny (model prog w) A (call (.builtin "min") [x] [("default", d)]) Q E s := by
  have nm : (toString "min" ++ toString ".loop" : String) = "min.loop" := by decide
  refine tree_kw PySem.F.kind_min PySem.F.plain_min PySem.F.entry_min (mind_args x d) ?_
  refine wpAny_bind (wpAny_of_eq (show Builtin.Builtins.bindParams "min" ["key", "default"] 0 ⟨[], [("default", d)]⟩ = pure [none, some d] from rfl) ?_)
  refine wpAny_bind (wpAny_pure (wpAny_bind (wpAny_mono h (fun i s2 h2 => ?_) fun _ _ e => e)))
  obtain ⟨it, fp, wr, n, Pv, St, bt, rfl, Wk, st, hfp, cmp, q0, q1⟩ := h2
  refine wpAny_bind (wpAny_newObj_type ?_)
  have nf : s2.heap.objs.size ∉ fp := fun z => Nat.lt_irrefl _ (hfp _ z)
  rw [nm]
  have fr : St 0 (s2.heap.push { cls := .type "list", data := .seq #[] }) := Wk.frame _ _ _ st fun b _ o e => Heap.get?_push_of_some _ e
  by_cases hn : 0 < n
  · refine wpAny_pure ⟨plainId_quiet PySem.F.plain_min_loop _, mind_first Wk bt cmp s2.heap.objs.size nf hn fr (Heap.get?_push_size _ rfl) fun v h' tk pv kk => ?_⟩
    exact q1 hn v h' tk pv fun b o hbw e => kk b o hbw (Nat.ne_of_lt (Heap.lt_size e)) (Heap.get?_push_of_some _ e)
  · obtain rfl : n = 0 := by omega
    refine wpAny_pure ⟨plainId_quiet PySem.F.plain_min_loop _, mind_none Wk s2.heap.objs.size nf fr (Heap.get?_push_size _ rfl) fun h' tk kk => ?_⟩
    exact q0 rfl h' tk fun b o hbw e => kk b o hbw (Nat.ne_of_lt (Heap.lt_size e)) (Heap.get?_push_of_some _ e)
theorem mind_ints {l : Addr} {its : List Value} {ns : List Int} {d : Value} {Q : Value → Shared → Prop} (hh : A.handled = none) (hl : s.heap.IsList l its.toArray) (hi : IntsAre its ns) (q0 : ns = [] → ∀ h' tk, (∀ b o, s.heap.get? b = some o → h'.get? b = some o) → Q d { s with heap := h', toks := tk })
    (q1 : ns ≠ [] → ∀ h' tk m t, (∀ b o, s.heap.get? b = some o → h'.get? b = some o) → m ∈ ns → (∀ a, a ∈ ns → m ≤ a) → Q (.int m t) { s with heap := h', toks := tk }) : wpAny (model prog w) A (call (.builtin "min") [.ref l] [("default", d)]) Q E s := by
  obtain ⟨xs, e⟩ := hi.allInts.items
  have hn : numsOf (intItems xs).toList = ns := by rw [← e]; exact hi.numsOf
  rw [nums_intItems] at hn
  subst hn
  rw [e] at hl
  refine mind_call (PySem.iter_intList hl fun s2 e st hfp hlI => ?_)
  subst e
  refine ⟨_, _, _, xs.size, _, _, _, rfl, by have z := Walks.list (A := A.in1) (prog := prog) (w := w) hh s.heap.objs.size l hlI (intItems xs); simpa [intItems] using z, st, hfp, CmpOf.ints_lt (numAt xs) (fun _ _ => intItems_at), fun en h' tk hk => ?_, fun hn v h' tk hP hk => ?_⟩
  · exact q0 (List.length_eq_zero_iff.mp (by rw [List.length_map, Array.length_toList]; exact en)) h' tk (PySem.old_kept hk)
  · obtain ⟨t, rfl⟩ := intItems_at hP
    obtain ⟨h1, h2⟩ := argBest_lt (numAt xs) (xs.size - 1)
    refine q1 (fun z => ?_) h' tk _ t (PySem.old_kept hk) ?_ fun a ha => ?_
    · have z2 := congrArg List.length z
      rw [List.length_map, Array.length_toList] at z2
      have : xs.size = 0 := z2
      omega
    · rw [numAt_eq]; exact PySem.getD_mem (by rw [List.length_map, Array.length_toList]; omega)
    · obtain ⟨j, hj, rfl⟩ := mem_getD ha
      rw [List.length_map, Array.length_toList] at hj
      rw [← numAt_eq]; exact h2 j (by omega)
end
section
variable {X : Cx}
def rmind (K : PySem.W.Frag) : List V → List V → Hp → VK → Prop := fun vs zs H Q => ∃ (a : Addr) (ns : List Int) (d : V), vs = [.ref a] ∧ zs = [d] ∧ SqL K H a (ns.map V.int) ∧ (ns = [] → Q d H) ∧ (ns ≠ [] → ∀ m, m ∈ ns → (∀ a, a ∈ ns → m ≤ a) → Q (.int m) H)
theorem cr_mind {K : PySem.W.Frag} (e : X.K = K) (hc : X.calm = true) : CallRK X (.builtin "min") ["default"] (rmind K) := by
  subst e
  intro pins s σ H vs zs us ws Q I r rz h
  obtain ⟨a, ns, d, rfl, rfl, hs, q0, q1⟩ := h
  obtain ⟨its, rv, hl, _⟩ := I.list hs
  rw [Vals.ref1 r]
  cases rz with
  | cons rd rn =>
    cases rn
    exact mind_ints (I.ok.hd hc) hl.isList rv.ints (fun en h' tk hk => ⟨d, H, I.kept hk, rd, q0 en⟩) fun ne h' tk m t hk h1 h2 => ⟨.int _, H, I.kept hk, ⟨_, rfl⟩, q1 ne m h1 h2⟩
end
/-! ### max(xs, default=d) -/
end Sl
namespace Sl
open PySem PySem.Spec PyProof.Rows L2
/-! ### own exceptions without an __init__ of their own -/
structure Err0 (K : PySem.W.Frag) (mg : Str → Option Value) (x : Str) (C : Addr) : Prop where
  gC : mg x = some (.ref C)
  ex : PySem.W.excIn K C [.type "ValueError", .type "Exception", .type "BaseException", .type "object"] "ValueError.__new__" = true
  kp : PySem.W.keepIn K (.ref C) = true
  ty : PySem.W.typeIn K (.ref C) = some (.type "type")
  ec : ExcC K C
section
variable {X : Cx} {x m : Str} {j : Nat} {C : Addr} {p p2 pos : Pos}
/-- C('m') -/
theorem pmk_err0 (T : Err0 X.K X.mg x C) (hg : Gl X x) (hdb : (x == ("__debug__" : Str)) = false := by decide) : PMk X (.Call (.Name x p) [.Constant (.str m) j p2] [] pos) (fun _ H Q => Q (.ref C) none H) :=
  pmk_own PySem.F.excBase_ValueError T.ex T.gC T.kp (raises_own T.ec.hs T.ty) hg hdb
/-- isinstance(e, c), e the exception that the suite holds, of class C -/
def rIs0 (K : PySem.W.Frag) (C a : Addr) (cls : Value) (d : Option Addr) : List V → Hp → VK → Prop := fun xs H Q => ∃ (c : V) (cv : Value) (b : Bool), xs = [.ref a, c] ∧ cls = .ref C ∧ d = none ∧ ClsV c cv ∧ PySem.W.kitOne K (.ref C) cv = some b ∧ Q (.bl b) H
theorem call_is0 {a : Addr} {oe : Obj} {cls : Value} {d : Option Addr} {pn : List (Addr × Obj)} (T : Err0 X.K X.mg x C) (hz : Zc cls d oe) (hf : ∃ vs, oe.data = .fields vs) : CallR (X.suite a ((a, oe) :: pn)) (.builtin "isinstance") (rIs0 X.K C a cls d) := by
  intro pins s σ H xs us Q I r h
  obtain ⟨c, cv, b, rfl, rfl, rfl, hcv, e, q⟩ := h
  exact call_isE T.ec hz hf pins s σ H _ us Q I r ⟨c, cv, b, rfl, fun u r => hcv.eq r, e, q⟩
end
end Sl
namespace Mi
open PySem PySem.Spec PyProof.Rows L2
section
variable {X : Cx} {K : PySem.W.Frag}
/-- list + list, read alone -/
def rCatS (K : PySem.W.Frag) : R2 := fun x y H Q => ∃ l b xs zs, x = .ref l ∧ y = .ref b ∧ SqL K H l xs ∧ SqL K H b zs ∧ xs.length + zs.length ≤ sizeLine ∧ ∀ p, H p = none → Q (.ref p) (upd H p (.lst (xs ++ zs)))
theorem op_catS (e : X.K = K) : OpR X (binaryOp .Add) (rCatS K) := by
  subst e
  intro pins s σ H x y v u Q I rx ry h
  obtain ⟨l, b, xs, zs, rfl, rfl, hH, hB, hz, q⟩ := h
  cases rx
  cases ry
  obtain ⟨its, r, ⟨⟨cls, dd, data, sl⟩, n, e, hc, hd0, hd⟩, hl⟩ := I.list hH
  obtain ⟨its2, r2, ⟨⟨cls2, dd2, data2, sl2⟩, n2, e2, hc2, hd02, hd2⟩, hl2⟩ := I.list hB
  simp only at hc hd hc2 hd2 hd0 hd02
  subst hc hd hc2 hd2 hd0 hd02
  have ea : its.toArray ++ its2.toArray = (its ++ its2).toArray := by simp
  have hsz : its.length + its2.length ≤ sizeLine := by rw [← r.length, ← r2.length]; exact hz
  refine concat_meets ⟨_, e, rfl⟩ ⟨_, e2, rfl⟩ noFill_list_add seq_list_add PySem.F.slot_list_add PySem.F.entry_list_add (PySem.F.args_list_add_2 _ _) (list_addW l b its.toArray its2.toArray n n2 none none sl sl2 (by simpa using hsz)) ⟨e, e2, ?_⟩
  rw [ea]
  exact ⟨.ref _, _, I.lnew (t' := s.toks) (r.append r2) (by rw [List.length_append]; omega), rfl, q _ I.fresh⟩
theorem sK_tupA (e : X.K = K) : SlR X (rSlA K) := by subst e; exact sl_tupA
theorem sK_list (e : X.K = K) : SlR X (rSlL K) := by subst e; exact sl_list
theorem cK_max (e : X.K = K) (hc : X.calm = true) : CallR X (.builtin "max") (rMax K) := by subst e; exact cr_max hc
theorem cK_min (e : X.K = K) (hc : X.calm = true) : CallR X (.builtin "min") (rMin K) := by subst e; exact cr_min hc
theorem cK_all (e : X.K = K) (hc : X.calm = true) : CallR X (.builtin "all") (rAll K) := by subst e; exact cr_all hc
end
end Mi
namespace Mi
open PySem PySem.Spec PyProof.Rows L2
open Sl (isTup sz szl)
/-! ### plain results -/
inductive EF | no | int (i : Int) | str (s : Str)
  deriving DecidableEq
/-- an exception of the program's own: the number of its class, its field -/
structure Er where
  c : Nat
  f : EF
  deriving DecidableEq
inductive Res (α : Type) | ok (a : α) | err (e : Er) | bad
  deriving DecidableEq
def Res.bind {α β : Type} : Res α → (α → Res β) → Res β
  | .ok a, k => k a
  | .err e, _ => .err e
  | .bad, _ => .bad
def Res.noerr {α : Type} : Res α → Res α
  | .err _ => .bad
  | r => r
def lt {α β : Type} (x : α) (k : α → β) : β := k x
@[simp] theorem lt_def {α β : Type} (x : α) (k : α → β) : lt x k = k x := rfl
section
variable {α β γ : Type}
@[simp] theorem bind_ok (a : α) (k : α → Res β) : (Res.ok a).bind k = k a := rfl
@[simp] theorem bind_err (e : Er) (k : α → Res β) : (Res.err e).bind k = .err e := rfl
@[simp] theorem bind_bad (k : α → Res β) : (Res.bad).bind k = .bad := rfl
theorem bind_assoc (m : Res α) (k : α → Res β) (l : β → Res γ) : (m.bind k).bind l = m.bind fun a => (k a).bind l := by cases m <;> rfl
@[simp] theorem noerr_ok (a : α) : (Res.ok a).noerr = .ok a := rfl
@[simp] theorem noerr_err (e : Er) : (Res.err e : Res α).noerr = .bad := rfl
@[simp] theorem noerr_bad : (Res.bad : Res α).noerr = .bad := rfl
end
/-- how a turn of a loop ends -/
inductive Fl (σ ρ : Type) | nx (s : σ) | rt (r : ρ) | br (s : σ)
def pfold {σ α : Type} (f : σ → α → Res σ) : σ → List α → Res σ
  | s, [] => .ok s
  | s, x :: xs => (f s x).bind fun s' => pfold f s' xs
def pnext {σ ρ : Type} (g : σ → Res (Fl σ ρ)) : Fl σ ρ → Res (Fl σ ρ)
  | .nx s => g s
  | .rt r => .ok (.rt r)
  | .br s => .ok (.nx s)
def pfor {σ ρ α : Type} (f : σ → α → Res (Fl σ ρ)) : σ → List α → Res (Fl σ ρ)
  | s, [] => .ok (.nx s)
  | s, x :: xs => (f s x).bind (pnext fun s' => pfor f s' xs)
def pafter {σ ρ τ : Type} (k : σ → Res τ) (j : ρ → Res τ) : Fl σ ρ → Res τ
  | .nx s => k s
  | .br s => k s
  | .rt r => j r
/-- behind a loop: what follows, or the return -/
def Res.thn {σ ρ τ : Type} (m : Res (Fl σ ρ)) (k : σ → Res τ) (j : ρ → Res τ) : Res τ := m.bind (pafter k j)
@[simp] theorem thn_nx {σ ρ τ : Type} (s : σ) (k : σ → Res τ) (j : ρ → Res τ) : (Res.ok (Fl.nx s)).thn k j = k s := rfl
@[simp] theorem thn_br {σ ρ τ : Type} (s : σ) (k : σ → Res τ) (j : ρ → Res τ) : (Res.ok (Fl.br s)).thn k j = k s := rfl
@[simp] theorem thn_rt {σ ρ τ : Type} (r : ρ) (k : σ → Res τ) (j : ρ → Res τ) : (Res.ok (Fl.rt r)).thn k j = j r := rfl
@[simp] theorem thn_err {σ ρ τ : Type} (e : Er) (k : σ → Res τ) (j : ρ → Res τ) : (Res.err e).thn k j = .err e := rfl
@[simp] theorem thn_bad {σ ρ τ : Type} (k : σ → Res τ) (j : ρ → Res τ) : (Res.bad).thn k j = .bad := rfl
/-- try: .. except: n the class of what may come -/
def ptry {α ρ : Type} (m : Res α) (k : α → Res ρ) (n : Nat) (h : Res ρ) : Res ρ := match m with
  | .ok x => k x
  | .err e => if e = ⟨n, .no⟩ then h else .bad
  | .bad => .bad
/-- a comprehension whose parts may fail: none where the test says no -/
def pml {α β : Type} (f : α → Res (Option β)) : List α → Res (List β)
  | [] => .ok []
  | x :: xs => (f x).bind fun r => (pml f xs).bind fun q => .ok (r.toList ++ q)
/-- .. or draw -/
def plc {σ α β : Type} (f : σ → α → Res (Option β × σ)) : σ → List α → Res (List β × σ)
  | s, [] => .ok ([], s)
  | s, x :: xs => (f s x).bind fun r => (plc f r.2 xs).bind fun q => .ok (r.1.toList ++ q.1, q.2)
/-! ### what is frozen; what may be said of a value -/
abbrev Fz := Addr → Prop
/-- what is read, locked or not -/
def core : HO → HO
  | .frz z (.ins C dx fs) => .frz z (.ins C dx fs)
  | .frz _ u => u
  | o => o
theorem isTup_iff {o : HO} : isTup o = true ↔ ∃ xs, core o = .tup xs := by
  cases o with
  | frz z u => cases u <;> simp [isTup, core]
  | _ => simp [isTup, core]
theorem core_tup {o o' : HO} (h : core o' = core o) (t : isTup o = true) : isTup o' = true := by
  rw [isTup_iff] at t ⊢; rw [h]; exact t
structure Le (S : Fz) (H : Hp) (S' : Fz) (H' : Hp) : Prop where
  fz : ∀ a, S a → S' a
  hp : ∀ a o, H a = some o → (S a ∨ isTup o = true) → ∃ o', H' a = some o' ∧ core o' = core o
  tp : ∀ a xs, H a = some (.tup xs) → H' a = some (.tup xs)
theorem Le.refl {S : Fz} {H : Hp} : Le S H S H := ⟨fun _ h => h, fun _ o h _ => ⟨o, h, rfl⟩, fun _ _ h => h⟩
theorem Le.trans {S S1 S2 : Fz} {H H1 H2 : Hp} (x : Le S H S1 H1) (y : Le S1 H1 S2 H2) : Le S H S2 H2 :=
  ⟨fun a h => y.fz a (x.fz a h), fun a o h k => by
    obtain ⟨o1, h1, e1⟩ := x.hp a o h k
    obtain ⟨o2, h2, e2⟩ := y.hp a o1 h1 (k.imp (x.fz a) (core_tup e1))
    exact ⟨o2, h2, e2.trans e1⟩, fun a xs h => y.tp a xs (x.tp a xs h)⟩
theorem Le.ex {S S' : Fz} {H H' : Hp} (f : ∀ a, S a → S' a) (h : ∀ a o, H a = some o → (S a ∨ isTup o = true) → H' a = some o) : Le S H S' H' := ⟨f, fun a o e k => ⟨o, h a o e k, rfl⟩, fun a xs e => h a _ e (.inr rfl)⟩
theorem core_of {o u : HO} (hu : ∀ z w, u ≠ .frz z w) (h : core o = u) : o = u ∨ ∃ z, o = .frz z u := by
  cases o with
  | frz z w =>
    cases w with
    | ins C dx fs => exact absurd h.symm (hu _ _)
    | _ => exact .inr ⟨z, congrArg (HO.frz z) h⟩
  | _ => exact .inl h
theorem Le.rd {S S' : Fz} {H H' : Hp} {a : Addr} {u : HO} (l : Le S H S' H') (hu : ∀ z w, u ≠ .frz z w) (hi : ∀ C dx fs, u ≠ .ins C dx fs) (h : Rd H a u) (k : S a ∨ isTup u = true) : Rd H' a u := by
  have cu : core u = u := by
    cases u with
    | frz z w => exact absurd rfl (hu z w)
    | _ => rfl
  have cz : ∀ z, core (.frz z u) = u := fun z => by
    cases u with
    | frz z w => exact absurd rfl (hu z w)
    | ins C dx fs => exact absurd rfl (hi C dx fs)
    | _ => rfl
  have fin : ∀ o, H a = some o → core o = u → isTup u = true ∨ S a → Rd H' a u := fun o h1 h2 h3 => by
    have t : S a ∨ isTup o = true := h3.elim (fun t => .inr (by
      rw [isTup_iff] at t ⊢
      obtain ⟨xs, e⟩ := t
      exact ⟨xs, h2.trans (cu.symm.trans e)⟩)) .inl
    obtain ⟨o', e1, e2⟩ := l.hp a o h1 t
    rw [h2] at e2
    rcases core_of hu e2 with e | ⟨z, e⟩
    · exact .inl (e ▸ e1)
    · exact .inr ⟨z, e ▸ e1⟩
  rcases h with h | ⟨z, h⟩
  · exact fin u h cu k.symm
  · exact fin _ h (cz z) k.symm
theorem Le.ins {S S' : Fz} {H H' : Hp} {a C dx : Addr} {fs : List (Str × V)} (l : Le S H S' H') (h : H a = some (.ins C dx fs)) (k : S a) : H' a = some (.ins C dx fs) := by
  obtain ⟨o', e1, e2⟩ := l.hp a _ h (.inl k)
  cases o' with
  | frz z w =>
    cases w <;> cases e2
  | _ => rw [e1]; exact congrArg some e2
structure Pv where
  p : Fz → Hp → V → Prop
  up : ∀ {S H S' H' v}, Le S H S' H' → p S H v → p S' H' v
def PsOk (S : Fz) (H : Hp) : List V → List Pv → Prop
  | [], [] => True
  | v :: vs, P :: ps => P.p S H v ∧ PsOk S H vs ps
  | _, _ => False
section
variable {S S' : Fz} {H H' : Hp}
theorem PsOk.up (l : Le S H S' H') : ∀ {vs : List V} {ps : List Pv}, PsOk S H vs ps → PsOk S' H' vs ps
  | [], [], _ => trivial
  | [], _ :: _, h => False.elim h
  | _ :: _, [], h => False.elim h
  | _ :: _, P :: _, h => ⟨P.up l h.1, PsOk.up l h.2⟩
theorem PsOk.length : ∀ {vs : List V} {ps : List Pv}, PsOk S H vs ps → vs.length = ps.length
  | [], [], _ => rfl
  | [], _ :: _, h => False.elim h
  | _ :: _, [], h => False.elim h
  | _ :: _, _ :: _, h => congrArg Nat.succ (PsOk.length h.2)
theorem PsOk.at : ∀ {vs : List V} {ps : List Pv} {i : Nat} {v : V}, PsOk S H vs ps → vs[i]? = some v → ∃ P, ps[i]? = some P ∧ P.p S H v
  | [], _, _, _, _, e => by simp at e
  | _ :: _, [], _, _, h, _ => False.elim h
  | _ :: _, P :: _, 0, _, h, e => by cases e; exact ⟨P, rfl, h.1⟩
  | _ :: _, _ :: _, i + 1, _, h, e => PsOk.at (i := i) h.2 e
theorem PsOk.at' : ∀ {vs : List V} {ps : List Pv} {i : Nat} {P : Pv}, PsOk S H vs ps → ps[i]? = some P → ∃ v, vs[i]? = some v ∧ P.p S H v
  | _, [], _, _, _, e => by simp at e
  | [], _ :: _, _, _, h, _ => False.elim h
  | v :: _, P :: _, 0, _, h, e => by cases e; exact ⟨v, rfl, h.1⟩
  | _ :: _, _ :: _, i + 1, _, h, e => PsOk.at' (i := i) h.2 e
theorem PsOk.app : ∀ {vs ws : List V} {ps qs : List Pv}, PsOk S H vs ps → PsOk S H ws qs → PsOk S H (vs ++ ws) (ps ++ qs)
  | [], _, [], _, _, k => k
  | [], _, _ :: _, _, h, _ => False.elim h
  | _ :: _, _, [], _, h, _ => False.elim h
  | _ :: _, _, _ :: _, _, h, k => ⟨h.1, PsOk.app h.2 k⟩
theorem PsOk.one {v : V} {P : Pv} (h : P.p S H v) : PsOk S H [v] [P] := ⟨h, trivial⟩
theorem PsOk.snoc {vs : List V} {ps : List Pv} {v : V} {P : Pv} (h : PsOk S H vs ps) (k : P.p S H v) : PsOk S H (vs ++ [v]) (ps ++ [P]) := h.app (.one k)
theorem PsOk.set : ∀ {vs : List V} {ps : List Pv} {v : V} {P : Pv} (i : Nat), PsOk S H vs ps → P.p S H v → PsOk S H (vs.set i v) (ps.set i P)
  | [], [], _, _, _, _, _ => trivial
  | [], _ :: _, _, _, _, h, _ => False.elim h
  | _ :: _, [], _, _, _, h, _ => False.elim h
  | _ :: _, _ :: _, _, _, 0, h, k => ⟨k, h.2⟩
  | _ :: _, _ :: _, _, _, i + 1, h, k => ⟨h.1, PsOk.set i h.2 k⟩
theorem PsOk.take : ∀ {vs : List V} {ps : List Pv} (i : Nat), PsOk S H vs ps → PsOk S H (vs.take i) (ps.take i)
  | [], [], i, _ => by simp; trivial
  | [], _ :: _, _, h => False.elim h
  | _ :: _, [], _, h => False.elim h
  | _ :: _, _ :: _, 0, h => trivial
  | _ :: _, _ :: _, i + 1, h => ⟨h.1, PsOk.take i h.2⟩
theorem PsOk.drop : ∀ {vs : List V} {ps : List Pv} (i : Nat), PsOk S H vs ps → PsOk S H (vs.drop i) (ps.drop i)
  | [], [], i, _ => by simp; trivial
  | [], _ :: _, _, h => False.elim h
  | _ :: _, [], _, h => False.elim h
  | _ :: _, _ :: _, 0, h => h
  | _ :: _, _ :: _, i + 1, h => PsOk.drop i h.2
end
/-- a mutable object, by its owner; pv: what it is once it is frozen -/
structure Ow where
  w : Fz → Hp → HO → Prop
  up : ∀ {S H S' H' o}, Le S H S' H' → w S H o → w S' H' o
  nt : ∀ {S H o}, w S H o → isTup o = false
  pv : Pv
  to : ∀ {S H a o}, S a → H a = some o → w S H o → pv.p S H (.ref a)
inductive Slt | any | val (P : Pv) | own (pin : Bool) (O : Ow)
abbrev Ctx := List Slt
structure Fr where
  S0 : Fz
  H0 : Hp
  I : Fz
  ad : Nat → Addr
structure FrOk (F : Fr) (S : Fz) (H : Hp) : Prop where
  kp : ∀ a o, F.H0 a = some o → ¬ F.I a → H a = some o
  fz : ∀ a, S a → F.S0 a ∨ F.H0 a = none ∨ F.I a
  le : ∀ a, F.S0 a → S a
  dm : ∀ a, F.H0 a ≠ none → H a ≠ none
  sd : ∀ a, S a → H a ≠ none
structure Rel (F : Fr) (Γ : Ctx) (S : Fz) (σ : L2.St) (H : Hp) : Prop where
  fr : FrOk F S H
  len : σ.length = Γ.length
  val : ∀ (i : Nat) (P : Pv), Γ[i]? = some (Slt.val P) → ∃ v, σ[i]? = some (some v) ∧ P.p S H v
  own : ∀ (i : Nat) (b : Bool) (O : Ow), Γ[i]? = some (Slt.own b O) → ∃ a o, σ[i]? = some (some (.ref a)) ∧ H a = some o ∧ O.w S H o ∧ ¬ S a ∧ (F.I a ∨ F.H0 a = none) ∧ (b = true → a = F.ad i)
  sep : ∀ (i j : Nat) (b b' : Bool) (O O' : Ow) (a : Addr), Γ[i]? = some (Slt.own b O) → Γ[j]? = some (Slt.own b' O') → σ[i]? = some (some (V.ref a)) → σ[j]? = some (some (V.ref a)) → i = j
/-- a is held by a slot of its own -/
def Held (Γ : Ctx) (σ : L2.St) (a : Addr) : Prop := ∃ (i : Nat) (b : Bool) (O : Ow), Γ[i]? = some (Slt.own b O) ∧ σ[i]? = some (some (V.ref a))
section
variable {F : Fr} {Γ : Ctx} {S S' : Fz} {σ : L2.St} {H H' : Hp} {p a : Addr} {o o' : HO} {i : Nat} {v : V} {P : Pv} {O O' : Ow} {b : Bool}
theorem FrOk.fresh (R : FrOk F S H) (h : H p = none) : F.H0 p = none := Classical.byContradiction fun z => R.dm p z h
theorem FrOk.nfz (R : FrOk F S H) (h : H p = none) : ¬ S p := fun z => R.sd p z h
/-- all stands but what is held -/
theorem Rel.move (R : Rel F Γ S σ H) (l : Le S H S' H') (k : ∀ a o, H a = some o → ¬ Held Γ σ a → H' a = some o) (f : ∀ a, S' a → S a ∨ H a = none) (d : ∀ a, S' a → H' a ≠ none) (d2 : ∀ a, H a ≠ none → H' a ≠ none)
    (w : ∀ (i : Nat) (b : Bool) (O : Ow) (a : Addr) (o : HO), Γ[i]? = some (Slt.own b O) → σ[i]? = some (some (V.ref a)) → H a = some o → O.w S H o → ∃ o', H' a = some o' ∧ O.w S' H' o') : Rel F Γ S' σ H' where
  fr := ⟨fun a o h n => k a o (R.fr.kp a o h n) (fun ⟨i, b, O, h1, h2⟩ => by
      obtain ⟨a', o', e1, e2, e3, e4, e5, _⟩ := R.own i b O h1
      rw [h2] at e1; cases e1
      rcases e5 with e5 | e5
      · exact n e5
      · rw [e5] at h; cases h),
    fun a h => (f a h).elim (R.fr.fz a) fun z => .inr (.inl (R.fr.fresh z)), fun a h => l.fz a (R.fr.le a h), fun a h => d2 a (R.fr.dm a h), d⟩
  len := R.len
  val := fun i P h => by
    obtain ⟨v, e, h⟩ := R.val i P h
    exact ⟨v, e, P.up l h⟩
  own := fun i b O h => by
    obtain ⟨a, o, e1, e2, e3, e4, e5, e6⟩ := R.own i b O h
    obtain ⟨o', h1, h2⟩ := w i b O a o h e1 e2 e3
    exact ⟨a, o', e1, h1, h2, fun z => (f a z).elim e4 (fun z => by rw [e2] at z; cases z), e5, e6⟩
  sep := R.sep
theorem le_new (h : H p = none) : Le S H S (upd H p o) := .ex (fun _ h => h) (fun a u e _ => by rw [upd_ne (ne_of_none e h)]; exact e)
theorem le_newF (h : H p = none) : Le S H (fun a => S a ∨ a = p) (upd H p o) := .ex (fun _ h => .inl h) (fun a u e _ => by rw [upd_ne (ne_of_none e h)]; exact e)
theorem upd_some (h : H a ≠ none) : upd H p o a ≠ none := by
  by_cases e : a = p
  · subst e; rw [upd_same]; exact fun z => nomatch z
  · rw [upd_ne e]; exact h
theorem Rel.new (R : Rel F Γ S σ H) (h : H p = none) : Rel F Γ S σ (upd H p o) :=
  R.move (le_new h) (fun a u e _ => by rw [upd_ne (ne_of_none e h)]; exact e) (fun a z => .inl z) (fun a z => upd_some (R.fr.sd a z)) (fun a z => upd_some z)
    fun i b O a u _ _ h1 h2 => ⟨u, by rw [upd_ne (ne_of_none h1 h)]; exact h1, O.up (le_new h) h2⟩
theorem Rel.newF (R : Rel F Γ S σ H) (h : H p = none) : Rel F Γ (fun a => S a ∨ a = p) σ (upd H p o) :=
  R.move (le_newF h) (fun a u e _ => by rw [upd_ne (ne_of_none e h)]; exact e) (fun a z => z.imp id (fun z => by rw [z]; exact h)) (fun a z => z.elim (fun z => upd_some (R.fr.sd a z)) (fun z => by subst z; rw [upd_same]; exact fun z => nomatch z)) (fun a z => upd_some z)
    fun i b O a u _ _ h1 h2 => ⟨u, by rw [upd_ne (ne_of_none h1 h)]; exact h1, O.up (le_newF h) h2⟩
theorem set_at {α : Type} {xs : List α} {i j : Nat} {x y : α} (h : (xs.set i x)[j]? = some y) : (j = i ∧ y = x) ∨ (j ≠ i ∧ xs[j]? = some y) := by
  by_cases e : i = j
  · subst e
    rw [List.getElem?_set] at h
    simp only [if_true] at h
    split at h
    · cases h; exact .inl ⟨rfl, rfl⟩
    · cases h
  · rw [List.getElem?_set_ne e] at h; exact .inr ⟨fun z => e z.symm, h⟩
theorem set_eq {α : Type} {xs : List α} {i : Nat} {x : α} (h : i < xs.length) : (xs.set i x)[i]? = some x := by simp [h]
theorem set_ne {α : Type} {xs : List α} {i j : Nat} {x : α} (h : j ≠ i) : (xs.set i x)[j]? = xs[j]? := List.getElem?_set_ne (Ne.symm h)
/-- a slot gets a value -/
theorem Rel.setv (R : Rel F Γ S σ H) (h : P.p S H v) (hi : i < Γ.length) : Rel F (Γ.set i (.val P)) S (σ.set i (some v)) H where
  fr := R.fr
  len := by rw [List.length_set, List.length_set]; exact R.len
  val := fun j P' e => by
    have q_ := set_at e; clear e; obtain ⟨rfl, e⟩ | ⟨n, e⟩ := q_
    · cases e; exact ⟨v, set_eq (by rw [R.len]; exact hi), h⟩
    · rw [set_ne n]; exact R.val j P' e
  own := fun j b O e => by
    have q_ := set_at e; clear e; obtain ⟨rfl, e⟩ | ⟨n, e⟩ := q_
    · cases e
    · rw [set_ne n]; exact R.own j b O e
  sep := fun j k b b' O O' a e1 e2 e3 e4 => by
    have q_ := set_at e1; clear e1; obtain ⟨rfl, e1⟩ | ⟨n1, e1⟩ := q_
    · cases e1
    have q_ := set_at e2; clear e2; obtain ⟨rfl, e2⟩ | ⟨n2, e2⟩ := q_
    · cases e2
    rw [set_ne n1] at e3; rw [set_ne n2] at e4
    exact R.sep j k b b' O O' a e1 e2 e3 e4
/-- a slot gets a new object of its own -/
theorem Rel.seto (R : Rel F Γ S σ H) (h1 : H a = some o) (h2 : O.w S H o) (h3 : ¬ S a) (h4 : F.I a ∨ F.H0 a = none) (h5 : ¬ Held Γ σ a) (hi : i < Γ.length) : Rel F (Γ.set i (.own false O)) S (σ.set i (some (.ref a))) H where
  fr := R.fr
  len := by rw [List.length_set, List.length_set]; exact R.len
  val := fun j P' e => by
    have q_ := set_at e; clear e; obtain ⟨rfl, e⟩ | ⟨n, e⟩ := q_
    · cases e
    · rw [set_ne n]; exact R.val j P' e
  own := fun j b O e => by
    have q_ := set_at e; clear e; obtain ⟨rfl, e⟩ | ⟨n, e⟩ := q_
    · cases e; exact ⟨a, o, set_eq (by rw [R.len]; exact hi), h1, h2, h3, h4, fun z => nomatch z⟩
    · rw [set_ne n]; exact R.own j b O e
  sep := fun j k b b' O O' c e1 e2 e3 e4 => by
    rcases set_at e1 with ⟨hj, e1'⟩ | ⟨n1, e1'⟩
    · rcases set_at e2 with ⟨hk, e2'⟩ | ⟨n2, e2'⟩
      · rw [hj, hk]
      · rw [hj, set_eq (by rw [R.len]; exact hi)] at e3; cases e3
        rw [set_ne n2] at e4
        exact absurd ⟨k, b', O', e2', e4⟩ h5
    · rcases set_at e2 with ⟨hk, e2'⟩ | ⟨n2, e2'⟩
      · rw [hk, set_eq (by rw [R.len]; exact hi)] at e4; cases e4
        rw [set_ne n1] at e3
        exact absurd ⟨j, b, O, e1', e3⟩ h5
      · rw [set_ne n1] at e3; rw [set_ne n2] at e4
        exact R.sep j k b b' O O' c e1' e2' e3 e4
/-- less is said of the slots -/
def Sub (Γ Γ' : Ctx) : Prop := Γ.length = Γ'.length ∧ ∀ (i : Nat) (x : Slt), Γ'[i]? = some x → x = Slt.any ∨ Γ[i]? = some x
theorem Rel.sub {Γ' : Ctx} (R : Rel F Γ S σ H) (s : Sub Γ Γ') : Rel F Γ' S σ H where
  fr := R.fr
  len := R.len.trans s.1
  val := fun i P h => R.val i P ((s.2 i _ h).resolve_left fun z => nomatch z)
  own := fun i b O h => R.own i b O ((s.2 i _ h).resolve_left fun z => nomatch z)
  sep := fun i j b b' O O' a h1 h2 => R.sep i j b b' O O' a ((s.2 i _ h1).resolve_left fun z => nomatch z) ((s.2 j _ h2).resolve_left fun z => nomatch z)
theorem Sub.refl : Sub Γ Γ := ⟨rfl, fun _ _ h => .inr h⟩
theorem Sub.nil : Sub [] [] := ⟨rfl, fun _ _ h => .inr h⟩
theorem Sub.any {x : Slt} {Γ Γ' : Ctx} (h : Sub Γ Γ') : Sub (x :: Γ) (Slt.any :: Γ') := ⟨by simp [h.1], fun i y e => by
  cases i with
  | zero => cases e; exact .inl rfl
  | succ i => exact h.2 i y e⟩
theorem Sub.same {x : Slt} {Γ Γ' : Ctx} (h : Sub Γ Γ') : Sub (x :: Γ) (x :: Γ') := ⟨by simp [h.1], fun i y e => by
  cases i with
  | zero => exact .inr e
  | succ i => exact h.2 i y e⟩
/-- a slot is forgotten -/
theorem Rel.wipe1 (R : Rel F Γ S σ H) (x : Option V) (hn : Γ[i]? = some .any ∨ Γ.length ≤ i ∨ True) : Rel F (Γ.set i .any) S (σ.set i x) H where
  fr := R.fr
  len := by rw [List.length_set, List.length_set]; exact R.len
  val := fun j P' e => by
    have q_ := set_at e; clear e; obtain ⟨rfl, e⟩ | ⟨n, e⟩ := q_
    · cases e
    · rw [set_ne n]; exact R.val j P' e
  own := fun j b O e => by
    have q_ := set_at e; clear e; obtain ⟨rfl, e⟩ | ⟨n, e⟩ := q_
    · cases e
    · rw [set_ne n]; exact R.own j b O e
  sep := fun j k b b' O O' a e1 e2 e3 e4 => by
    have q_ := set_at e1; clear e1; obtain ⟨rfl, e1⟩ | ⟨n1, e1⟩ := q_
    · cases e1
    have q_ := set_at e2; clear e2; obtain ⟨rfl, e2⟩ | ⟨n2, e2⟩ := q_
    · cases e2
    rw [set_ne n1] at e3; rw [set_ne n2] at e4
    exact R.sep j k b b' O O' a e1 e2 e3 e4
theorem le_mut (h1 : H a = some o) (h2 : ¬ S a) (h3 : isTup o = false) : Le S H S (upd H a o') := .ex (fun _ h => h) (fun c u e k => by
  by_cases z : c = a
  · subst z
    rw [h1] at e; cases e
    rcases k with k | k
    · exact absurd k h2
    · rw [h3] at k; cases k
  · rw [upd_ne z]; exact e)
/-- the owner changes what it holds -/
theorem Rel.mut (R : Rel F Γ S σ H) (hg : Γ[i]? = some (.own b O)) (hs : σ[i]? = some (some (.ref a))) (hw : ∀ o, H a = some o → O.w S H o → O'.w S (upd H a o') o') : Le S H S (upd H a o') ∧ Rel F (Γ.set i (.own b O')) S σ (upd H a o') := by
  obtain ⟨a', o, e1, e2, e3, e4, e5, e6⟩ := R.own i b O hg
  rw [hs] at e1; cases e1
  have l : Le S H S (upd H a o') := le_mut e2 e4 (O.nt e3)
  refine ⟨l, ⟨⟨fun c u h n => ?_, R.fr.fz, R.fr.le, fun c h => upd_some (R.fr.dm c h), fun c h => upd_some (R.fr.sd c h)⟩, by rw [List.length_set]; exact R.len, fun j P e => ?_, fun j b' O1 e => ?_, fun j k b1 b2 O1 O2 c h1 h2 h3 h4 => ?_⟩⟩
  · have z : c ≠ a := fun z => by
      subst z
      rcases e5 with e5 | e5
      · exact n e5
      · rw [e5] at h; cases h
    rw [upd_ne z]; exact R.fr.kp c u h n
  · have q_ := set_at e; clear e; obtain ⟨rfl, e⟩ | ⟨n, e⟩ := q_
    · cases e
    · obtain ⟨v, h1, h2⟩ := R.val j P e
      exact ⟨v, h1, P.up l h2⟩
  · have q_ := set_at e; clear e; obtain ⟨rfl, e⟩ | ⟨n, e⟩ := q_
    · cases e; exact ⟨a, o', hs, upd_same, hw o e2 e3, e4, e5, e6⟩
    · obtain ⟨c, u, h1, h2, h3, h4, h5, h6⟩ := R.own j b' O1 e
      have z : c ≠ a := fun z => by
        subst z
        exact n (R.sep j i b' b O1 O c e hg h1 hs)
      exact ⟨c, u, h1, by rw [upd_ne z]; exact h2, O1.up l h3, h4, h5, h6⟩
  · have q1 : ∃ (b : Bool) (O : Ow), Γ[j]? = some (Slt.own b O) := by
      rcases set_at h1 with ⟨rfl, _⟩ | ⟨_, h1⟩
      · exact ⟨_, _, hg⟩
      · exact ⟨_, _, h1⟩
    have q2 : ∃ (b : Bool) (O : Ow), Γ[k]? = some (Slt.own b O) := by
      rcases set_at h2 with ⟨rfl, _⟩ | ⟨_, h2⟩
      · exact ⟨_, _, hg⟩
      · exact ⟨_, _, h2⟩
    obtain ⟨_, _, q1⟩ := q1
    obtain ⟨_, _, q2⟩ := q2
    exact R.sep j k _ _ _ _ c q1 q2 h3 h4
/-- the owner lets go -/
theorem Rel.freeze (R : Rel F Γ S σ H) (hg : Γ[i]? = some (.own b O)) (hs : σ[i]? = some (some (.ref a))) : Le S H (fun c => S c ∨ c = a) H ∧ O.pv.p (fun c => S c ∨ c = a) H (.ref a) ∧ Rel F (Γ.set i (.val O.pv)) (fun c => S c ∨ c = a) σ H := by
  obtain ⟨a', o, e1, e2, e3, e4, e5, e6⟩ := R.own i b O hg
  rw [hs] at e1; cases e1
  have l : Le S H (fun c => S c ∨ c = a) H := .ex (fun _ h => .inl h) (fun _ _ h _ => h)
  have hp := O.to (S := fun c => S c ∨ c = a) (.inr rfl) e2 (O.up l e3)
  refine ⟨l, hp, ⟨⟨R.fr.kp, fun c h => ?_, fun c h => .inl (R.fr.le c h), R.fr.dm, fun c h => ?_⟩, by rw [List.length_set]; exact R.len, fun j P e => ?_, fun j b' O1 e => ?_, fun j k b1 b2 O1 O2 c h1 h2 h3 h4 => ?_⟩⟩
  · rcases h with h | rfl
    · exact R.fr.fz c h
    · exact e5.elim (fun z => .inr (.inr z)) fun z => .inr (.inl z)
  · rcases h with h | rfl
    · exact R.fr.sd c h
    · rw [e2]; exact fun z => nomatch z
  · have q_ := set_at e; clear e; obtain ⟨rfl, e⟩ | ⟨n, e⟩ := q_
    · cases e; exact ⟨_, hs, hp⟩
    · obtain ⟨v, h1, h2⟩ := R.val j P e
      exact ⟨v, h1, P.up l h2⟩
  · have q_ := set_at e; clear e; obtain ⟨rfl, e⟩ | ⟨n, e⟩ := q_
    · cases e
    · obtain ⟨c, u, h1, h2, h3, h4, h5, h6⟩ := R.own j b' O1 e
      refine ⟨c, u, h1, h2, O1.up l h3, fun z => z.elim h4 fun z => ?_, h5, h6⟩
      subst z
      exact n (R.sep j i b' b O1 O c e hg h1 hs)
  · have q_ := set_at h1; clear h1; obtain ⟨rfl, h1⟩ | ⟨n1, h1⟩ := q_
    · cases h1
    have q_ := set_at h2; clear h2; obtain ⟨rfl, h2⟩ | ⟨n2, h2⟩ := q_
    · cases h2
    exact R.sep j k b1 b2 O1 O2 c h1 h2 h3 h4
end
end Mi
namespace Mi
open PySem PySem.Spec PyProof.Rows L2
open Sl (isTup sz szl)
inductive Vo | val (P : Pv) | own (O : Ow)
def Vo.is (F : Fr) (Γ : Ctx) (σ : L2.St) (S : Fz) (H : Hp) : Vo → V → Prop
  | .val P, v => P.p S H v
  | .own O, v => ∃ a o, v = .ref a ∧ H a = some o ∧ O.w S H o ∧ ¬ S a ∧ (F.I a ∨ F.H0 a = none) ∧ ¬ Held Γ σ a
inductive Ag | val (P : Pv) | io (i : Nat)
def Ag.is (σ : L2.St) (S : Fz) (H : Hp) : Ag → V → Prop
  | .val P, v => P.p S H v
  | .io i, v => σ[i]? = some (some v)
def AgsOk (σ : L2.St) (S : Fz) (H : Hp) : List V → List Ag → Prop
  | [], [] => True
  | v :: vs, g :: gs => g.is σ S H v ∧ AgsOk σ S H vs gs
  | _, _ => False
/-- what is wanted of an exception e -/
def ErH (A : Nat → Addr) (e : Er) (E : XK) (H : Hp) : Prop := match e.f with
  | .no => E (.ref (A e.c)) none H
  | .int i => ∀ dd n, H dd = some (.xd [(n, .int i)]) → E (.ref (A e.c)) (some dd) H
  | .str s => ∀ dd n, H dd = some (.xd [(n, .str s)]) → E (.ref (A e.c)) (some dd) H
section
variable {ρ : Type} (A : Nat → Addr)
def EOk (E : XK) (F : Fr) (T : Res ρ → Prop) : Prop := ∀ e, T (.err e) → ∀ S' H', FrOk F S' H' → ErH A e E H'
structure Ok0 (E : XK) (F : Fr) (T : Res ρ → Prop) : Prop where
  nb : ¬ T .bad
  er : EOk A E F T
variable (E : L2.St → XK)
def WX (Γ : Ctx) (t : TE) (c : Res ρ) (κ : Ctx → Vo → Res ρ → Prop) : Prop :=
  ∀ (F : Fr) (T : Res ρ → Prop) (S : Fz) (σ : L2.St) (H : Hp) (Q : VK), Ok0 A (E σ) F T → Rel F Γ S σ H → T c →
    (∀ Γ' V c', κ Γ' V c' → ∀ S' H' v, Rel F Γ' S' σ H' → Le S H S' H' → V.is F Γ' σ S' H' v → T c' → Q v H') → t σ H Q
def WT (Γ : Ctx) (t : TT) (c : Res ρ) (κ : Ctx → Bool → Res ρ → Prop) : Prop :=
  ∀ (F : Fr) (T : Res ρ → Prop) (S : Fz) (σ : L2.St) (H : Hp) (Q : Bool → Hp → Prop), Ok0 A (E σ) F T → Rel F Γ S σ H → T c →
    (∀ Γ' b c', κ Γ' b c' → ∀ S' H', Rel F Γ' S' σ H' → Le S H S' H' → T c' → Q b H') → t σ H Q
def WA (Γ : Ctx) (t : TA) (c : Res ρ) (κ : Ctx → List Ag → Res ρ → Prop) : Prop :=
  ∀ (F : Fr) (T : Res ρ → Prop) (S : Fz) (σ : L2.St) (H : Hp) (Q : List V → Hp → Prop), Ok0 A (E σ) F T → Rel F Γ S σ H → T c →
    (∀ Γ' gs c', κ Γ' gs c' → ∀ S' H' vs, Rel F Γ' S' σ H' → Le S H S' H' → AgsOk σ S' H' vs gs → T c' → Q vs H') → t σ H Q
/-- an operator on values -/
def RX (r : R2) (P P' : Pv) (Γ : Ctx) (c : Res ρ) (κ : Ctx → Vo → Res ρ → Prop) : Prop :=
  ∀ (F : Fr) (T : Res ρ → Prop) (S : Fz) (σ : L2.St) (H : Hp) (x y : V) (Q : VK), Ok0 A (E σ) F T → Rel F Γ S σ H → T c → P.p S H x → P'.p S H y →
    (∀ Γ' V c', κ Γ' V c' → ∀ S' H' v, Rel F Γ' S' σ H' → Le S H S' H' → V.is F Γ' σ S' H' v → T c' → Q v H') → r x y H Q
def RU (r : V → Hp → VK → Prop) (P : Pv) (Γ : Ctx) (c : Res ρ) (κ : Ctx → Vo → Res ρ → Prop) : Prop :=
  ∀ (F : Fr) (T : Res ρ → Prop) (S : Fz) (σ : L2.St) (H : Hp) (x : V) (Q : VK), Ok0 A (E σ) F T → Rel F Γ S σ H → T c → P.p S H x →
    (∀ Γ' V c', κ Γ' V c' → ∀ S' H' v, Rel F Γ' S' σ H' → Le S H S' H' → V.is F Γ' σ S' H' v → T c' → Q v H') → r x H Q
/-- a call of a built-in on values -/
def RC (r : L2.St → List V → Hp → VK → Prop) (gs : List Ag) (Γ : Ctx) (c : Res ρ) (κ : Ctx → Vo → Res ρ → Prop) : Prop :=
  ∀ (F : Fr) (T : Res ρ → Prop) (S : Fz) (σ : L2.St) (H : Hp) (vs : List V) (Q : VK), Ok0 A (E σ) F T → Rel F Γ S σ H → T c → AgsOk σ S H vs gs →
    (∀ Γ' V c', κ Γ' V c' → ∀ S' H' v, Rel F Γ' S' σ H' → Le S H S' H' → V.is F Γ' σ S' H' v → T c' → Q v H') → r σ vs H Q
def WG (Γ : Ctx) (g : TG) (P : Pv) (κ : Ctx → Prop) : Prop :=
  ∀ (F : Fr) (S : Fz) (σ : L2.St) (H : Hp) (x : V) (Q : L2.St → Hp → Prop), Rel F Γ S σ H → P.p S H x →
    (∀ Γ', κ Γ' → ∀ σ', Rel F Γ' S σ' H → Q σ' H) → g x σ H Q
def WGs (Γ : Ctx) (g : TGs) (ps : List Pv) (κ : Ctx → Prop) : Prop :=
  ∀ (F : Fr) (S : Fz) (σ : L2.St) (H : Hp) (xs : List V) (Q : L2.St → Hp → Prop), Rel F Γ S σ H → PsOk S H xs ps →
    (∀ Γ', κ Γ' → ∀ σ', Rel F Γ' S σ' H → Q σ' H) → g xs σ H Q
/-- what a loop walks -/
def ItOk (F : Fr) (J : It) (ps : List Pv) (S : Fz) (H : Hp) : Prop := ps.length ≤ sizeLine ∧ ∀ S1 H1, Le S H S1 H1 → FrOk F S1 H1 → (∀ i, i < ps.length → J.go i H1) ∧ J.stop ps.length H1 ∧
  ∀ i x H', i < ps.length → J.yld i H1 x H' → ∃ P, ps[i]? = some P ∧ (H' = H1 ∨ ∃ p o, H1 p = none ∧ H' = upd H1 p o) ∧ P.p S1 H' x
def WI (Γ : Ctx) (w : TI) (c : Res ρ) (κ : Ctx → List Pv → Res ρ → Prop) : Prop :=
  ∀ (F : Fr) (T : Res ρ → Prop) (S : Fz) (σ : L2.St) (H : Hp) (R : It → Hp → Prop), Ok0 A (E σ) F T → Rel F Γ S σ H → T c →
    (∀ Γ' ps c', κ Γ' ps c' → ∀ S' H' J, Rel F Γ' S' σ H' → Le S H S' H' → T c' → ItOk F J ps S' H' → R J H') → w σ H R
structure Dl (ρ : Type) where
  nx : Ctx → Res ρ → Prop
  rt : Ctx → Vo → Res ρ → Prop := fun _ _ _ => False
  bk : Ctx → Res ρ → Prop := fun _ _ => False
  ct : Ctx → Res ρ → Prop := fun _ _ => False
structure DOk (F : Fr) (T : Res ρ → Prop) (S : Fz) (H : Hp) (Δ : Dl ρ) (D : Ends) : Prop where
  nx : ∀ Γ' c', Δ.nx Γ' c' → ∀ S' σ' H', Rel F Γ' S' σ' H' → Le S H S' H' → T c' → D.nx σ' H'
  rt : ∀ Γ' V c', Δ.rt Γ' V c' → ∀ S' σ' H' v, Rel F Γ' S' σ' H' → Le S H S' H' → V.is F Γ' σ' S' H' v → T c' → D.rt v H'
  bk : ∀ Γ' c', Δ.bk Γ' c' → ∀ S' σ' H', Rel F Γ' S' σ' H' → Le S H S' H' → T c' → D.bk σ' H'
  ct : ∀ Γ' c', Δ.ct Γ' c' → ∀ S' σ' H', Rel F Γ' S' σ' H' → Le S H S' H' → T c' → D.ct σ' H'
def WS (Γ : Ctx) (s : TS) (c : Res ρ) (Δ : Dl ρ) : Prop :=
  ∀ (F : Fr) (T : Res ρ → Prop) (S : Fz) (σ : L2.St) (H : Hp) (D : Ends), (∀ σ, Ok0 A (E σ) F T) → Rel F Γ S σ H → T c → DOk F T S H Δ D → s D σ H
end
theorem DOk.le {ρ : Type} {F : Fr} {T : Res ρ → Prop} {S S1 : Fz} {H H1 : Hp} {Δ : Dl ρ} {D : Ends} (d : DOk F T S H Δ D) (l : Le S H S1 H1) : DOk F T S1 H1 Δ D :=
  ⟨fun Γ c h S' σ' H' R l' => d.nx Γ c h S' σ' H' R (l.trans l'), fun Γ V c h S' σ' H' v R l' => d.rt Γ V c h S' σ' H' v R (l.trans l'), fun Γ c h S' σ' H' R l' => d.bk Γ c h S' σ' H' R (l.trans l'), fun Γ c h S' σ' H' R l' => d.ct Γ c h S' σ' H' R (l.trans l')⟩
/-! ### kinds of values -/
def yInt (i : Int) : Pv := ⟨fun _ _ v => v = .int i, fun _ h => h⟩
def yStr (s : Str) : Pv := ⟨fun _ _ v => v = .str s, fun _ h => h⟩
def yBl (b : Bool) : Pv := ⟨fun _ _ v => v = .bl b, fun _ h => h⟩
def yNon : Pv := ⟨fun _ _ v => v = .non, fun _ h => h⟩
theorem le_sqT {K : PySem.W.Frag} {S S' : Fz} {H H' : Hp} {a : Addr} {xs : List V} (l : Le S H S' H') (h : SqT K H a xs) : SqT K H' a xs :=
  h.imp (fun h => l.rd (fun _ _ e => nomatch e) (fun _ _ _ e => nomatch e) h (.inr rfl)) id
/-- a list that stands -/
def LsF (K : PySem.W.Frag) (S : Fz) (H : Hp) (a : Addr) (xs : List V) : Prop := SqL K H a xs ∧ ((S a ∧ Rd H a (.lst xs)) ∨ ∀ H', SqL K H' a xs)
theorem le_lsF {K : PySem.W.Frag} {S S' : Fz} {H H' : Hp} {a : Addr} {xs : List V} (l : Le S H S' H') (h : LsF K S H a xs) : LsF K S' H' a xs := by
  rcases h.2 with ⟨hs, hr⟩ | h
  · have : Rd H' a (.lst xs) := l.rd (fun _ _ e => nomatch e) (fun _ _ _ e => nomatch e) hr (.inl hs)
    exact ⟨.inl this, .inl ⟨l.fz a hs, this⟩⟩
  · exact ⟨h _, .inr h⟩
def pTup (K : PySem.W.Frag) (ps : List Pv) : Pv := ⟨fun S H v => ∃ a vs, v = .ref a ∧ SqT K H a vs ∧ PsOk S H vs ps ∧ vs.length ≤ sizeLine, fun l ⟨a, vs, h1, h2, h3, h4⟩ => ⟨a, vs, h1, le_sqT l h2, h3.up l, h4⟩⟩
def pLst (K : PySem.W.Frag) (ps : List Pv) : Pv := ⟨fun S H v => ∃ a vs, v = .ref a ∧ LsF K S H a vs ∧ PsOk S H vs ps ∧ vs.length ≤ sizeLine, fun l ⟨a, vs, h1, h2, h3, h4⟩ => ⟨a, vs, h1, le_lsF l h2, h3.up l, h4⟩⟩
/-- a list or a tuple -/
def pSeq (K : PySem.W.Frag) (ps : List Pv) : Pv := ⟨fun S H v => (pLst K ps).p S H v ∨ (pTup K ps).p S H v, fun l h => h.imp ((pLst K ps).up l) ((pTup K ps).up l)⟩
def oLst (K : PySem.W.Frag) (ps : List Pv) : Ow where
  w S H o := ∃ vs, o = .lst vs ∧ PsOk S H vs ps ∧ vs.length ≤ sizeLine
  up l h := by obtain ⟨vs, h1, h2, h3⟩ := h; exact ⟨vs, h1, h2.up l, h3⟩
  nt h := by obtain ⟨vs, rfl, _⟩ := h; rfl
  pv := pLst K ps
  to hs he h := by obtain ⟨vs, rfl, h2, h3⟩ := h; exact ⟨_, vs, rfl, ⟨.inl (.inl he), .inl ⟨hs, .inl he⟩⟩, h2, h3⟩
abbrev yTup (K : PySem.W.Frag) {α : Type} (t : α → Pv) (xs : List α) : Pv := pTup K (xs.map t)
abbrev yLst (K : PySem.W.Frag) {α : Type} (t : α → Pv) (xs : List α) : Pv := pLst K (xs.map t)
abbrev ySeqq (K : PySem.W.Frag) {α : Type} (t : α → Pv) (xs : List α) : Pv := pSeq K (xs.map t)
def yPr (K : PySem.W.Frag) {α β : Type} (t : α → Pv) (u : β → Pv) (x : α × β) : Pv := pTup K [t x.1, u x.2]
def yTr (K : PySem.W.Frag) {α β γ : Type} (t : α → Pv) (u : β → Pv) (w : γ → Pv) (x : α × β × γ) : Pv := pTup K [t x.1, u x.2.1, w x.2.2]
def yOpt {α : Type} (t : α → Pv) : Option α → Pv
  | none => yNon
  | some x => t x
section
variable {ρ : Type} {A : Nat → Addr} {E : L2.St → XK} {K : PySem.W.Frag} {Γ : Ctx} {c : Res ρ} {κ : Ctx → Vo → Res ρ → Prop} {κt : Ctx → Bool → Res ρ → Prop} {κa : Ctx → List Ag → Res ρ → Prop} {ta tb t : TE} {tt uu : TT} {tr : TA} {i j : Nat} {P P' : Pv} {O : Ow} {ps qs : List Pv} {r : R2} {Δ : Dl ρ} {s s2 : TS}
/-! ### expressions -/
theorem wx_c {v : V} (P : Pv) (hp : ∀ S H, P.p S H v) (h : κ Γ (.val P) c) : WX A E Γ (tC v) c κ := fun F T S σ H Q O R hc k => k _ _ _ h S H v R Le.refl (hp S H) hc
theorem wx_int {i : Int} (h : κ Γ (.val (yInt i)) c) : WX A E Γ (tC (.int i)) c κ := wx_c (yInt i) (fun _ _ => rfl) h
theorem wx_str {x : Str} (h : κ Γ (.val (yStr x)) c) : WX A E Γ (tC (.str x)) c κ := wx_c (yStr x) (fun _ _ => rfl) h
theorem wx_bl {b : Bool} (h : κ Γ (.val (yBl b)) c) : WX A E Γ (tC (.bl b)) c κ := wx_c (yBl b) (fun _ _ => rfl) h
theorem wx_non (h : κ Γ (.val yNon) c) : WX A E Γ (tC .non) c κ := wx_c yNon (fun _ _ => rfl) h
theorem wx_var (hg : Γ[i]? = some (.val P)) (h : κ Γ (.val P) c) : WX A E Γ (tVar i) c κ := fun F T S σ H Q O R hc k => by
  obtain ⟨v, e, hv⟩ := R.val i P hg
  exact ⟨v, e, k _ _ _ h S H v R Le.refl hv hc⟩
/-- a new object, from now on read only -/
theorem wx_fz (h : WX A E Γ t c fun Γ' V c' => ∃ O, V = .own O ∧ κ Γ' (.val O.pv) c') : WX A E Γ t c κ := fun F T S σ H Q O R hc k => by
  refine h F T S σ H Q O R hc fun Γ' V c' h S' H' v R' l hv hc' => ?_
  obtain ⟨O', rfl, h⟩ := h
  obtain ⟨a, o, rfl, h1, h2, h3, h4, h5⟩ := hv
  have l2 : Le S' H' (fun c => S' c ∨ c = a) H' := .ex (fun _ h => .inl h) (fun _ _ h _ => h)
  refine k _ _ _ h (fun c => S' c ∨ c = a) H' _ ?_ (l.trans l2) (O'.to (.inr rfl) h1 (O'.up l2 h2)) hc'
  refine ⟨⟨R'.fr.kp, fun c h => ?_, fun c h => .inl (R'.fr.le c h), R'.fr.dm, fun c h => ?_⟩, R'.len, fun j P e => ?_, fun j b' O1 e => ?_, R'.sep⟩
  · rcases h with h | rfl
    · exact R'.fr.fz c h
    · exact h4.elim (fun z => .inr (.inr z)) fun z => .inr (.inl z)
  · rcases h with h | rfl
    · exact R'.fr.sd c h
    · rw [h1]; exact fun z => nomatch z
  · obtain ⟨v, h1, h2⟩ := R'.val j P e
    exact ⟨v, h1, P.up l2 h2⟩
  · obtain ⟨c, u, q1, q2, q3, q4, q5, q6⟩ := R'.own j b' O1 e
    refine ⟨c, u, q1, q2, O1.up l2 q3, fun z => z.elim q4 fun z => ?_, q5, q6⟩
    subst z
    exact h5 ⟨j, b', O1, e, q1⟩
/-- what a slot owns is given away -/
theorem wx_take (hg : Γ[i]? = some (.own false O)) (h : κ (Γ.set i .any) (.own O) c) : WX A E Γ (tVar i) c κ := fun F T S σ H Q _ R hc k => by
  obtain ⟨a, o, e1, e2, e3, e4, e5, e6⟩ := R.own i false O hg
  have R' : Rel F (Γ.set i .any) S (σ.set i (some (.ref a))) H := R.wipe1 _ (.inr (.inr trivial))
  have es : σ.set i (some (.ref a)) = σ := by
    apply List.ext_getElem?
    intro j
    by_cases z : i = j
    · subst z
      rw [e1]
      exact set_eq (List.getElem?_eq_some_iff.mp e1).1
    · rw [List.getElem?_set_ne z]
  rw [es] at R'
  refine ⟨_, e1, k _ _ _ h S H _ R' Le.refl ⟨a, o, rfl, e2, e3, e4, e5, fun ⟨j, b, O', w1, w2⟩ => ?_⟩ hc⟩
  rcases set_at w1 with ⟨_, w⟩ | ⟨n, w⟩
  · cases w
  · exact n (R.sep j i b false O' O a w hg w2 e1)
theorem wx_op (h : WX A E Γ ta c fun Γ1 V1 c1 => ∃ P1, V1 = .val P1 ∧ WX A E Γ1 tb c1 fun Γ2 V2 c2 => ∃ P2, V2 = .val P2 ∧ RX A E r P1 P2 Γ2 c2 κ) : WX A E Γ (tOp r ta tb) c κ := fun F T S σ H Q O R hc k => by
  refine h F T S σ H _ O R hc fun Γ1 V1 c1 h1 S1 H1 x R1 l1 p1 hc1 => ?_
  obtain ⟨P1, rfl, h1⟩ := h1
  refine h1 F T S1 σ H1 _ O R1 hc1 fun Γ2 V2 c2 h2 S2 H2 y R2 l2 p2 hc2 => ?_
  obtain ⟨P2, rfl, h2⟩ := h2
  exact h2 F T S2 σ H2 x y Q O R2 hc2 (P1.up l2 p1) p2 fun Γ' V c' q S' H' v R' l => k Γ' V c' q S' H' v R' ((l1.trans l2).trans l)
theorem wx_un {r : V → Hp → VK → Prop} (h : WX A E Γ ta c fun Γ1 V1 c1 => ∃ P1, V1 = .val P1 ∧ RU A E r P1 Γ1 c1 κ) : WX A E Γ (tUn r ta) c κ := fun F T S σ H Q O R hc k => by
  refine h F T S σ H _ O R hc fun Γ1 V1 c1 h1 S1 H1 x R1 l1 p1 hc1 => ?_
  obtain ⟨P1, rfl, h1⟩ := h1
  exact h1 F T S1 σ H1 x Q O R1 hc1 p1 fun Γ' V c' q S' H' v R' l => k Γ' V c' q S' H' v R' (l1.trans l)
theorem wx_cb {r : List V → Hp → VK → Prop} (h : WA A E Γ tr c fun Γ1 gs c1 => RC A E (fun _ => r) gs Γ1 c1 κ) : WX A E Γ (tCB r tr) c κ := fun F T S σ H Q O R hc k => by
  refine h F T S σ H _ O R hc fun Γ1 gs c1 h1 S1 H1 xs R1 l1 p1 hc1 => ?_
  exact h1 F T S1 σ H1 xs Q O R1 hc1 p1 fun Γ' V c' q S' H' v R' l => k Γ' V c' q S' H' v R' (l1.trans l)
/-! arguments -/
theorem AgsOk.up {σ : L2.St} {S S' : Fz} {H H' : Hp} (l : Le S H S' H') : ∀ {vs : List V} {gs : List Ag}, AgsOk σ S H vs gs → AgsOk σ S' H' vs gs
  | [], [], _ => trivial
  | [], _ :: _, h => False.elim h
  | _ :: _, [], h => False.elim h
  | _ :: _, .val P :: _, h => ⟨P.up l h.1, AgsOk.up l h.2⟩
  | _ :: _, .io i :: _, h => ⟨h.1, AgsOk.up l h.2⟩
theorem wa_nil (h : κa Γ [] c) : WA A E Γ tNil c κa := fun F T S σ H Q O R hc k => k _ _ _ h S H [] R Le.refl trivial hc
theorem wa_cons (h : WX A E Γ ta c fun Γ1 V1 c1 => ∃ P1, V1 = .val P1 ∧ WA A E Γ1 tr c1 fun Γ2 gs c2 => κa Γ2 (.val P1 :: gs) c2) : WA A E Γ (tCons ta tr) c κa := fun F T S σ H Q O R hc k => by
  refine h F T S σ H _ O R hc fun Γ1 V1 c1 h1 S1 H1 x R1 l1 p1 hc1 => ?_
  obtain ⟨P1, rfl, h1⟩ := h1
  exact h1 F T S1 σ H1 _ O R1 hc1 fun Γ2 gs c2 h2 S2 H2 xs R2 l2 p2 hc2 => k _ _ _ h2 S2 H2 _ R2 (l1.trans l2) ⟨P1.up l2 p1, p2⟩ hc2
theorem wa_io {b : Bool} (hg : Γ[i]? = some (.own b O)) (h : WA A E Γ tr c fun Γ2 gs c2 => κa Γ2 (.io i :: gs) c2) : WA A E Γ (tCons (tVar i) tr) c κa := fun F T S σ H Q O R hc k => by
  obtain ⟨a, o, e1, _⟩ := R.own i b _ hg
  exact ⟨_, e1, h F T S σ H _ O R hc fun Γ2 gs c2 h2 S2 H2 xs R2 l2 p2 hc2 => k _ _ _ h2 S2 H2 _ R2 l2 ⟨e1, p2⟩ hc2⟩
def vals : List Pv → List Ag := List.map Ag.val
theorem AgsOk.pvs {σ : L2.St} {S : Fz} {H : Hp} : ∀ {vs : List V} {ps : List Pv}, AgsOk σ S H vs (vals ps) → PsOk S H vs ps
  | [], [], _ => trivial
  | [], _ :: _, h => False.elim h
  | _ :: _, [], h => False.elim h
  | _ :: _, _ :: _, h => ⟨h.1, AgsOk.pvs h.2⟩
/-! displays -/
theorem wx_tup (h : WA A E Γ tr c fun Γ1 gs c1 => ∃ ps, gs = vals ps ∧ ps.length ≤ 1000 ∧ κ Γ1 (.val (pTup K ps)) c1) : WX A E Γ (tTup tr) c κ := fun F T S σ H Q O R hc k => by
  refine h F T S σ H _ O R hc fun Γ1 gs c1 h1 S1 H1 xs R1 l1 p1 hc1 => ?_
  obtain ⟨ps, rfl, hl, h1⟩ := h1
  have p1 := p1.pvs
  have hz : xs.length ≤ sizeLine := sz (by rw [p1.length]; omega)
  exact ⟨hz, fun p hp => k _ _ _ h1 S1 _ _ (R1.new hp) (l1.trans (le_new hp)) ⟨p, xs, rfl, .inl (.inl upd_same), p1.up (le_new hp), hz⟩ hc1⟩
theorem Held.dom {F : Fr} {S : Fz} {σ : L2.St} {H : Hp} {a : Addr} (R : Rel F Γ S σ H) (h : Held Γ σ a) : H a ≠ none := by
  obtain ⟨i, b, O, h1, h2⟩ := h
  obtain ⟨a', o, e1, e2, _⟩ := R.own i b O h1
  rw [h2] at e1; cases e1
  rw [e2]; exact fun z => nomatch z
theorem isOwn {F : Fr} {S : Fz} {σ : L2.St} {H : Hp} {p : Addr} {o : HO} (R : Rel F Γ S σ H) (hp : H p = none) (h : O.w S (upd H p o) o) : (Vo.own O).is F Γ σ S (upd H p o) (.ref p) :=
  ⟨p, o, rfl, upd_same, h, R.fr.nfz hp, .inr (R.fr.fresh hp), fun z => z.dom R hp⟩
theorem wx_lst (h : WA A E Γ tr c fun Γ1 gs c1 => ∃ ps, gs = vals ps ∧ ps.length ≤ 1000 ∧ κ Γ1 (.own (oLst K ps)) c1) : WX A E Γ (tLst tr) c κ := fun F T S σ H Q O R hc k => by
  refine h F T S σ H _ O R hc fun Γ1 gs c1 h1 S1 H1 xs R1 l1 p1 hc1 => ?_
  obtain ⟨ps, rfl, hl, h1⟩ := h1
  have p1 := p1.pvs
  have hz : xs.length ≤ sizeLine := sz (by rw [p1.length]; omega)
  exact ⟨hz, fun p hp => k _ _ _ h1 S1 _ _ (R1.new hp) (l1.trans (le_new hp)) (isOwn R1 hp ⟨xs, rfl, p1.up (le_new hp), hz⟩) hc1⟩
/-! ### tests -/
theorem wt_b (h : WX A E Γ t c fun Γ1 V c1 => ∃ b, V = .val (yBl b) ∧ κt Γ1 b c1) : WT A E Γ (tB t) c κt := fun F T S σ H Q O R hc k => by
  refine h F T S σ H _ O R hc fun Γ1 V c1 h1 S1 H1 x R1 l1 p1 hc1 => ?_
  obtain ⟨b, rfl, h1⟩ := h1
  exact ⟨b, p1, k _ _ _ h1 S1 H1 R1 l1 hc1⟩
theorem wt_not (h : WT A E Γ tt c fun Γ1 b c1 => κt Γ1 (!b) c1) : WT A E Γ (tNot tt) c κt := fun F T S σ H Q O R hc k =>
  h F T S σ H _ O R hc fun Γ1 b c1 h1 S1 H1 R1 l1 hc1 => k _ _ _ h1 S1 H1 R1 l1 hc1
theorem wt_yes (h : κt Γ true c) : WT A E Γ tYes c κt := fun F T S σ H Q O R hc k => k _ _ _ h S H R Le.refl hc
/-- the second part is plain: it changes nothing and has one answer -/
theorem wt_and (b2 : Bool) (h : WT A E Γ tt c fun Γ1 b1 c1 => (b1 = true → WT A E Γ1 uu c1 fun Γ2 b c2 => Γ2 = Γ1 ∧ c2 = c1 ∧ b = b2) ∧ κt Γ1 (b1 && b2) c1) : WT A E Γ (tAnd tt uu) c κt := fun F T S σ H Q O R hc k => by
  refine h F T S σ H _ O R hc fun Γ1 b1 c1 h1 S1 H1 R1 l1 hc1 => ?_
  cases b1 with
  | false => exact k _ _ _ h1.2 S1 H1 R1 l1 hc1
  | true =>
    refine h1.1 rfl F T S1 σ H1 _ O R1 hc1 fun Γ2 b c2 h2 S2 H2 R2 l2 hc2 => ?_
    obtain ⟨rfl, rfl, rfl⟩ := h2
    exact k _ _ _ h1.2 S2 H2 R2 (l1.trans l2) hc2
theorem wt_or (b2 : Bool) (h : WT A E Γ tt c fun Γ1 b1 c1 => (b1 = false → WT A E Γ1 uu c1 fun Γ2 b c2 => Γ2 = Γ1 ∧ c2 = c1 ∧ b = b2) ∧ κt Γ1 (b1 || b2) c1) : WT A E Γ (tOr tt uu) c κt := fun F T S σ H Q O R hc k => by
  refine h F T S σ H _ O R hc fun Γ1 b1 c1 h1 S1 H1 R1 l1 hc1 => ?_
  cases b1 with
  | true => exact k _ _ _ h1.2 S1 H1 R1 l1 hc1
  | false =>
    refine h1.1 rfl F T S1 σ H1 _ O R1 hc1 fun Γ2 b c2 h2 S2 H2 R2 l2 hc2 => ?_
    obtain ⟨rfl, rfl, rfl⟩ := h2
    exact k _ _ _ h1.2 S2 H2 R2 (l1.trans l2) hc2
/-- the second part may fail or change something: a state μ joins both ways -/
theorem wt_andM {μ : Type} (h : WT A E Γ tt c fun Γ1 b1 c1 => ∃ (Γj : μ → Ctx) (m : Res (Bool × μ)) (s0 : μ) (k' : Bool × μ → Res ρ), c1 = (if b1 = true then m else .ok (false, s0)).bind k' ∧ Sub Γ1 (Γj s0) ∧ (b1 = true → WT A E Γ1 uu m fun Γ2 b c2 => ∃ s, c2 = .ok (b, s) ∧ Sub Γ2 (Γj s)) ∧ ∀ q, κt (Γj q.2) q.1 (k' q)) : WT A E Γ (tAnd tt uu) c κt := fun F T S σ H Q O R hc k => by
  refine h F T S σ H _ O R hc fun Γ1 b1 c1 h1 S1 H1 R1 l1 hc1 => ?_
  obtain ⟨Γj, m, s0, k', rfl, sb, hm, hk⟩ := h1
  cases b1 with
  | false => exact k _ _ _ (hk (false, s0)) S1 H1 (R1.sub sb) l1 hc1
  | true =>
    refine hm rfl F (fun m => T (m.bind k')) S1 σ H1 _ ⟨O.nb, O.er⟩ R1 hc1 fun Γ2 b c2 h2 S2 H2 R2 l2 hc2 => ?_
    obtain ⟨s, rfl, sb⟩ := h2
    exact k _ _ _ (hk (b, s)) S2 H2 (R2.sub sb) (l1.trans l2) hc2
theorem wt_orM {μ : Type} (h : WT A E Γ tt c fun Γ1 b1 c1 => ∃ (Γj : μ → Ctx) (m : Res (Bool × μ)) (s0 : μ) (k' : Bool × μ → Res ρ), c1 = (if b1 = true then .ok (true, s0) else m).bind k' ∧ Sub Γ1 (Γj s0) ∧ (b1 = false → WT A E Γ1 uu m fun Γ2 b c2 => ∃ s, c2 = .ok (b, s) ∧ Sub Γ2 (Γj s)) ∧ ∀ q, κt (Γj q.2) q.1 (k' q)) : WT A E Γ (tOr tt uu) c κt := fun F T S σ H Q O R hc k => by
  refine h F T S σ H _ O R hc fun Γ1 b1 c1 h1 S1 H1 R1 l1 hc1 => ?_
  obtain ⟨Γj, m, s0, k', rfl, sb, hm, hk⟩ := h1
  cases b1 with
  | true => exact k _ _ _ (hk (true, s0)) S1 H1 (R1.sub sb) l1 hc1
  | false =>
    refine hm rfl F (fun m => T (m.bind k')) S1 σ H1 _ ⟨O.nb, O.er⟩ R1 hc1 fun Γ2 b c2 h2 S2 H2 R2 l2 hc2 => ?_
    obtain ⟨s, rfl, sb⟩ := h2
    exact k _ _ _ (hk (b, s)) S2 H2 (R2.sub sb) (l1.trans l2) hc2
/-! and, or, not as values; of a bool -/
theorem wx_andV (b2 : Bool) (h : WX A E Γ ta c fun Γ1 V1 c1 => ∃ b1, V1 = .val (yBl b1) ∧ (b1 = true → WX A E Γ1 tb c1 fun Γ2 V c2 => Γ2 = Γ1 ∧ c2 = c1 ∧ V = .val (yBl b2)) ∧ κ Γ1 (.val (yBl (b1 && b2))) c1) : WX A E Γ (tAndV ta tb) c κ := fun F T S σ H Q O R hc k => by
  refine h F T S σ H _ O R hc fun Γ1 V1 c1 h1 S1 H1 x R1 l1 p1 hc1 => ?_
  obtain ⟨b1, rfl, h1⟩ := h1
  refine ⟨b1, p1, ?_⟩
  cases b1 with
  | false => exact k _ _ _ h1.2 S1 H1 _ R1 l1 rfl hc1
  | true =>
    refine h1.1 rfl F T S1 σ H1 _ O R1 hc1 fun Γ2 V c2 h2 S2 H2 y R2 l2 p2 hc2 => ?_
    obtain ⟨rfl, rfl, rfl⟩ := h2
    exact k _ _ _ h1.2 S2 H2 _ R2 (l1.trans l2) p2 hc2
theorem wx_orV (b2 : Bool) (h : WX A E Γ ta c fun Γ1 V1 c1 => ∃ b1, V1 = .val (yBl b1) ∧ (b1 = false → WX A E Γ1 tb c1 fun Γ2 V c2 => Γ2 = Γ1 ∧ c2 = c1 ∧ V = .val (yBl b2)) ∧ κ Γ1 (.val (yBl (b1 || b2))) c1) : WX A E Γ (tOrV ta tb) c κ := fun F T S σ H Q O R hc k => by
  refine h F T S σ H _ O R hc fun Γ1 V1 c1 h1 S1 H1 x R1 l1 p1 hc1 => ?_
  obtain ⟨b1, rfl, h1⟩ := h1
  refine ⟨b1, p1, ?_⟩
  cases b1 with
  | true => exact k _ _ _ h1.2 S1 H1 _ R1 l1 rfl hc1
  | false =>
    refine h1.1 rfl F T S1 σ H1 _ O R1 hc1 fun Γ2 V c2 h2 S2 H2 y R2 l2 p2 hc2 => ?_
    obtain ⟨rfl, rfl, rfl⟩ := h2
    exact k _ _ _ h1.2 S2 H2 _ R2 (l1.trans l2) p2 hc2
theorem wx_andVM {μ : Type} (h : WX A E Γ ta c fun Γ1 V1 c1 => ∃ b1, V1 = .val (yBl b1) ∧ ∃ (Γj : μ → Ctx) (m : Res (Bool × μ)) (s0 : μ) (k' : Bool × μ → Res ρ), c1 = (if b1 = true then m else .ok (false, s0)).bind k' ∧ Sub Γ1 (Γj s0) ∧ (b1 = true → WX A E Γ1 tb m fun Γ2 V c2 => ∃ b s, V = .val (yBl b) ∧ c2 = .ok (b, s) ∧ Sub Γ2 (Γj s)) ∧ ∀ q : Bool × μ, κ (Γj q.2) (.val (yBl q.1)) (k' q)) : WX A E Γ (tAndV ta tb) c κ := fun F T S σ H Q O R hc k => by
  refine h F T S σ H _ O R hc fun Γ1 V1 c1 h1 S1 H1 x R1 l1 p1 hc1 => ?_
  obtain ⟨b1, rfl, Γj, m, s0, k', rfl, sb, hm, hk⟩ := h1
  refine ⟨b1, p1, ?_⟩
  cases b1 with
  | false => exact k _ _ _ (hk (false, s0)) S1 H1 _ (R1.sub sb) l1 rfl hc1
  | true =>
    refine hm rfl F (fun m => T (m.bind k')) S1 σ H1 _ ⟨O.nb, O.er⟩ R1 hc1 fun Γ2 V c2 h2 S2 H2 y R2 l2 p2 hc2 => ?_
    obtain ⟨b, s, rfl, rfl, sb⟩ := h2
    exact k _ _ _ (hk (b, s)) S2 H2 _ (R2.sub sb) (l1.trans l2) p2 hc2
theorem wx_ifM {α μ : Type} (k1 : α → Pv) (h : WT A E Γ tt c fun Γ1 b c1 => ∃ (Γj : μ → Ctx) (m n : Res (α × μ)) (k' : α × μ → Res ρ), c1 = (if b = true then m else n).bind k' ∧ (b = true → WX A E Γ1 ta m fun Γ2 V c2 => ∃ x s, V = .val (k1 x) ∧ c2 = .ok (x, s) ∧ Sub Γ2 (Γj s)) ∧ (b = false → WX A E Γ1 tb n fun Γ2 V c2 => ∃ x s, V = .val (k1 x) ∧ c2 = .ok (x, s) ∧ Sub Γ2 (Γj s)) ∧ ∀ q : α × μ, κ (Γj q.2) (.val (k1 q.1)) (k' q)) : WX A E Γ (tIf tt ta tb) c κ := fun F T S σ H Q O R hc k => by
  refine h F T S σ H _ O R hc fun Γ1 b c1 h1 S1 H1 R1 l1 hc1 => ?_
  obtain ⟨Γj, m, n, k', rfl, hm, hn, hk⟩ := h1
  cases b with
  | true =>
    refine hm rfl F (fun m => T (m.bind k')) S1 σ H1 _ ⟨O.nb, O.er⟩ R1 hc1 fun Γ2 V c2 h2 S2 H2 y R2 l2 p2 hc2 => ?_
    obtain ⟨x, s, rfl, rfl, sb⟩ := h2
    exact k _ _ _ (hk (x, s)) S2 H2 _ (R2.sub sb) (l1.trans l2) p2 hc2
  | false =>
    refine hn rfl F (fun m => T (m.bind k')) S1 σ H1 _ ⟨O.nb, O.er⟩ R1 hc1 fun Γ2 V c2 h2 S2 H2 y R2 l2 p2 hc2 => ?_
    obtain ⟨x, s, rfl, rfl, sb⟩ := h2
    exact k _ _ _ (hk (x, s)) S2 H2 _ (R2.sub sb) (l1.trans l2) p2 hc2
/-! ### operators -/
/-- an operation on ints that asks something: the plain part has it as a guard -/
def guard (p : Prop) [Decidable p] : Res Unit := if p then .ok () else .bad
/-- kinds that == tells apart by their values -/
class Scal (α : Type) (t : α → Pv) where
  enc : α → V
  is : ∀ x S H v, (t x).p S H v → v = enc x
  inj : ∀ x y, enc x = enc y → x = y
  sc : ∀ x y, scal (enc x) (enc y) = true
instance : Scal Int yInt := ⟨V.int, fun _ _ _ _ h => h, fun _ _ h => by injection h, fun _ _ => rfl⟩
instance : Scal Str yStr := ⟨V.str, fun _ _ _ _ h => h, fun _ _ h => by injection h, fun _ _ => rfl⟩
instance : Scal Bool yBl := ⟨V.bl, fun _ _ _ _ h => h, fun _ _ h => by injection h, fun _ _ => rfl⟩
theorem rx_eq {α : Type} {t : α → Pv} [DecidableEq α] [I : Scal α t] {x y : α} (h : κ Γ (.val (yBl (decide (x = y)))) c) : RX A E rEq (t x) (t y) Γ c κ := fun F T S σ H v w Q O R hc h1 h2 k => by
  have e1 := I.is _ _ _ _ h1
  have e2 := I.is _ _ _ _ h2
  subst e1; subst e2
  refine ⟨I.sc x y, ?_⟩
  have e : (decide (I.enc x = I.enc y)) = decide (x = y) := decide_eq_decide.mpr ⟨I.inj x y, fun z => by rw [z]⟩
  rw [e]
  exact k _ _ _ h S H _ R Le.refl rfl hc
theorem rx_ne {α : Type} {t : α → Pv} [DecidableEq α] [I : Scal α t] {x y : α} (h : κ Γ (.val (yBl (!decide (x = y)))) c) : RX A E rNe (t x) (t y) Γ c κ := fun F T S σ H v w Q O R hc h1 h2 k => by
  have e1 := I.is _ _ _ _ h1
  have e2 := I.is _ _ _ _ h2
  subst e1; subst e2
  refine ⟨I.sc x y, ?_⟩
  have e : (decide (I.enc x = I.enc y)) = decide (x = y) := decide_eq_decide.mpr ⟨I.inj x y, fun z => by rw [z]⟩
  rw [e]
  exact k _ _ _ h S H _ R Le.refl rfl hc
end
end Mi
namespace Mi
open PySem PySem.Spec PyProof.Rows L2
open Sl (isTup sz szl)
section
variable {ρ : Type} {A : Nat → Addr} {E : L2.St → XK} {K : PySem.W.Frag} {Γ : Ctx} {c : Res ρ} {κ : Ctx → Vo → Res ρ → Prop} {κt : Ctx → Bool → Res ρ → Prop} {κa : Ctx → List Ag → Res ρ → Prop} {κi : Ctx → List Pv → Res ρ → Prop} {ta tb t te : TE} {tt uu : TT} {tr : TA} {i j : Nat} {P P' : Pv} {O : Ow} {ps qs : List Pv} {r : R2} {Δ : Dl ρ} {s s2 tb' : TS} {g : TG} {gs : TGs}
/-! ### statements -/
theorem ws_next (h : Δ.nx Γ c) : WS A E Γ tNext c Δ := fun F T S σ H D O R hc d => d.nx _ _ h S σ H R Le.refl hc
theorem ws_seq (h : WS A E Γ s c { Δ with nx := fun Γ' c' => WS A E Γ' s2 c' Δ }) : WS A E Γ (tSeq s s2) c Δ := fun F T S σ H D O R hc d =>
  h F T S σ H { D with nx := s2 D } O R hc ⟨fun Γ' c' q S' σ' H' R' l hc' => q F T S' σ' H' D O R' hc' (d.le l), d.rt, d.bk, d.ct⟩
theorem ws_ctx {Γ' : Ctx} (e : Γ = Γ') (h : WS A E Γ' s c Δ) : WS A E Γ s c Δ := e ▸ h
theorem wg_ctx {Γ' : Ctx} {κ : Ctx → Prop} (e : Γ = Γ') (h : WG Γ' g P κ) : WG Γ g P κ := e ▸ h
/-- from here on what slot i holds is read only -/
theorem ws_frz (i : Nat) {b : Bool} (hg : Γ[i]? = some (.own b O)) (h : WS A E (Γ.set i (.val O.pv)) s c Δ) : WS A E Γ s c Δ := fun F T S σ H D Ok R hc d => by
  obtain ⟨a, o, e1, _⟩ := R.own i b O hg
  obtain ⟨l, _, R'⟩ := R.freeze hg e1
  exact h F T _ σ H D Ok R' hc (d.le l)
theorem ws_asg (h : WX A E Γ te c fun Γ1 V c1 => ∃ P, V = .val P ∧ WG Γ1 g P fun Γ2 => Δ.nx Γ2 c1) : WS A E Γ (tAsg te g) c Δ := fun F T S σ H D O R hc d => by
  refine h F T S σ H _ (O σ) R hc fun Γ1 V c1 h1 S1 H1 x R1 l1 p1 hc1 => ?_
  obtain ⟨P, rfl, h1⟩ := h1
  exact h1 F S1 σ H1 x _ R1 p1 fun Γ2 h2 σ2 R2 => d.nx _ _ h2 S1 σ2 H1 R2 l1 hc1
theorem wg_name (hi : i < Γ.length) {κ : Ctx → Prop} (h : κ (Γ.set i (.val P))) : WG Γ (gName i) P κ := fun F S σ H x Q R hp k => k _ h _ (R.setv hp hi)
theorem ws_set (h : WX A E Γ te c fun Γ1 V c1 => ∃ P, V = .val P ∧ i < Γ1.length ∧ Δ.nx (Γ1.set i (.val P)) c1) : WS A E Γ (tAsg te (gName i)) c Δ := ws_asg fun F T S σ H Q O R hc k =>
  h F T S σ H Q O R hc fun Γ1 V c1 ⟨P, e, hi, h1⟩ => k Γ1 V c1 ⟨P, e, wg_name hi h1⟩
/-- the value gets a name -/
theorem ws_setL {α : Type} (t : α → Pv) (h : WX A E Γ te c fun Γ1 V c1 => ∃ x k, V = .val (t x) ∧ i < Γ1.length ∧ c1 = lt x k ∧ ∀ x, Δ.nx (Γ1.set i (.val (t x))) (k x)) : WS A E Γ (tAsg te (gName i)) c Δ := ws_set fun F T S σ H Q O R hc k =>
  h F T S σ H Q O R hc fun Γ1 V c1 ⟨x, l, e, hi, e1, h1⟩ S' H' v R' le hv hc' => k Γ1 V (l x) ⟨_, e, hi, h1 x⟩ S' H' v R' le hv (by rw [e1] at hc'; exact hc')
/-- an own object -/
theorem ws_setO {α : Type} (t : α → Ow) (h : WX A E Γ te c fun Γ1 V c1 => ∃ x k, V = .own (t x) ∧ i < Γ1.length ∧ c1 = lt x k ∧ ∀ x, Δ.nx (Γ1.set i (.own false (t x))) (k x)) : WS A E Γ (tAsg te (gName i)) c Δ := fun F T S σ H D O R hc d => by
  refine h F T S σ H _ (O σ) R hc fun Γ1 V c1 h1 S1 H1 x R1 l1 p1 hc1 => ?_
  obtain ⟨x, k, rfl, hi, rfl, h1⟩ := h1
  obtain ⟨a, o, rfl, q1, q2, q3, q4, q5⟩ := p1
  exact d.nx _ _ (h1 x) S1 _ H1 (R1.seto q1 q2 q3 q4 q5 hi) l1 hc1
theorem ws_ret (h : WX A E Γ te c Δ.rt) : WS A E Γ (tRet te) c Δ := fun F T S σ H D O R hc d =>
  h F T S σ H _ (O σ) R hc fun Γ1 V c1 h1 S1 H1 x R1 l1 p1 hc1 => d.rt _ _ _ h1 S1 σ H1 x R1 l1 p1 hc1
theorem ws_if (h : WT A E Γ tt c fun Γ1 b c1 => ∃ ca cb, c1 = (if b = true then ca else cb) ∧ WS A E Γ1 s ca Δ ∧ WS A E Γ1 s2 cb Δ) : WS A E Γ (tIfS tt s s2) c Δ := fun F T S σ H D O R hc d => by
  refine h F T S σ H _ (O σ) R hc fun Γ1 b c1 h1 S1 H1 R1 l1 hc1 => ?_
  obtain ⟨ca, cb, rfl, ha, hb⟩ := h1
  cases b with
  | true => exact ha F T S1 σ H1 D O R1 hc1 (d.le l1)
  | false => exact hb F T S1 σ H1 D O R1 hc1 (d.le l1)
/-- a block whose outcome has a name -/
theorem ws_blk {μ : Type} (Γj : μ → Ctx) {m : Res μ} {k : μ → Res ρ} (e : c = m.bind k) (h : WS A E Γ s m ⟨fun Γ' c' => ∃ x, c' = .ok x ∧ Sub Γ' (Γj x), fun _ _ _ => False, fun _ _ => False, fun _ _ => False⟩) (h2 : ∀ x, Δ.nx (Γj x) (k x)) : WS A E Γ s c Δ := fun F T S σ H D O R hc d => by
  subst e
  refine h F (fun m => T (m.bind k)) S σ H D (fun σ => ⟨(O σ).nb, (O σ).er⟩) R hc ⟨fun Γ' c' q S' σ' H' R' l hc' => ?_, fun _ _ _ z => z.elim, fun _ _ z => z.elim, fun _ _ z => z.elim⟩
  obtain ⟨x, rfl, sb⟩ := q
  exact d.nx _ _ (h2 x) S' σ' H' (R'.sub sb) l hc'
/-! ### targets -/
theorem wg_tup (n : Nat) {κ : Ctx → Prop} (hn : ps.length = n) (h : WGs Γ gs ps κ) : WG Γ (gTup K n gs) (pTup K ps) κ := fun F S σ H x Q R hp k => by
  obtain ⟨a, vs, rfl, hs, hv, hl⟩ := hp
  exact ⟨a, vs, rfl, hs, by rw [hv.length, hn], h F S σ H vs Q R hv k⟩
theorem wgs_nil {κ : Ctx → Prop} (h : κ Γ) : WGs Γ gNil [] κ := fun F S σ H xs Q R hp k => by
  match xs, hp with
  | [], _ => exact ⟨rfl, k _ h σ R⟩
theorem wgs_cons {κ : Ctx → Prop} (h : WG Γ g P fun Γ1 => WGs Γ1 gs ps κ) : WGs Γ (gCons g gs) (P :: ps) κ := fun F S σ H xs Q R hp k => by
  match xs, hp with
  | v :: vs, hp => exact ⟨v, vs, rfl, h F S σ H v _ R hp.1 fun Γ1 h1 σ1 R1 => h1 F S σ1 H vs Q R1 hp.2 k⟩
/-! ### what is walked -/
theorem itl_ok {F : Fr} {S : Fz} {H : Hp} {a : Addr} {vs : List V} (h1 : LsF K S H a vs) (h2 : PsOk S H vs ps) (h3 : vs.length ≤ sizeLine) : ItOk F (Itl K a) ps S H := ⟨h2.length ▸ h3, fun S1 H1 l _ => by
  have q := (le_lsF l h1).1
  have w := walk_list (K := K) (a := a) (xs := vs)
  have e := h2.length
  refine ⟨fun i hi => w.goes i H1 (by rw [e]; exact hi) q, by rw [← e]; exact w.stops H1 q, fun i x H' hi y => ?_⟩
  obtain ⟨rfl, hx⟩ := w.yields i H1 x H' (by rw [e]; exact hi) q y
  obtain ⟨P, h3, h4⟩ := (h2.up l).at hx
  exact ⟨P, h3, .inl rfl, h4⟩⟩
theorem itt_ok {F : Fr} {S : Fz} {H : Hp} {a : Addr} {vs : List V} (h1 : SqT K H a vs) (h2 : PsOk S H vs ps) (h3 : vs.length ≤ sizeLine) : ItOk F (Itt K a) ps S H := ⟨h2.length ▸ h3, fun S1 H1 l _ => by
  have q := le_sqT l h1
  have w := walk_tup (K := K) (a := a) (xs := vs)
  have e := h2.length
  refine ⟨fun i hi => w.goes i H1 (by rw [e]; exact hi) q, by rw [← e]; exact w.stops H1 q, fun i x H' hi y => ?_⟩
  obtain ⟨rfl, hx⟩ := w.yields i H1 x H' (by rw [e]; exact hi) q y
  obtain ⟨P, h3, h4⟩ := (h2.up l).at hx
  exact ⟨P, h3, .inl rfl, h4⟩⟩
theorem wi_list (h : WX A E Γ te c fun Γ1 V c1 => ∃ ps, V = .val (pLst K ps) ∧ κi Γ1 ps c1) : WI A E Γ (iList K te) c κi := fun F T S σ H Q O R hc k => by
  refine h F T S σ H _ O R hc fun Γ1 V c1 h1 S1 H1 x R1 l1 p1 hc1 => ?_
  obtain ⟨ps, rfl, h1⟩ := h1
  obtain ⟨a, vs, rfl, hs, hv, hl⟩ := p1
  exact ⟨a, rfl, ⟨_, hs.1⟩, k _ _ _ h1 S1 H1 _ R1 l1 hc1 (itl_ok hs hv hl)⟩
theorem wi_tup (h : WX A E Γ te c fun Γ1 V c1 => ∃ ps, V = .val (pTup K ps) ∧ κi Γ1 ps c1) : WI A E Γ (iTup K te) c κi := fun F T S σ H Q O R hc k => by
  refine h F T S σ H _ O R hc fun Γ1 V c1 h1 S1 H1 x R1 l1 p1 hc1 => ?_
  obtain ⟨ps, rfl, h1⟩ := h1
  obtain ⟨a, vs, rfl, hs, hv, hl⟩ := p1
  exact ⟨a, rfl, ⟨_, hs⟩, k _ _ _ h1 S1 H1 _ R1 l1 hc1 (itt_ok hs hv hl)⟩
theorem wi_seq (hg : Γ[i]? = some (.val (pSeq K ps))) (h : κi Γ ps c) : WI A E Γ (fun σ H R => iList K (tVar i) σ H R ∨ iTup K (tVar i) σ H R) c κi := fun F T S σ H Q O R hc k => by
  obtain ⟨v, e, hv⟩ := R.val i _ hg
  rcases hv with ⟨a, vs, rfl, hs, hv, hl⟩ | ⟨a, vs, rfl, hs, hv, hl⟩
  · exact .inl ⟨_, e, a, rfl, ⟨_, hs.1⟩, k _ _ _ h S H _ R Le.refl hc (itl_ok hs hv hl)⟩
  · exact .inr ⟨_, e, a, rfl, ⟨_, hs⟩, k _ _ _ h S H _ R Le.refl hc (itt_ok hs hv hl)⟩
def rng (lo : Int) (n : Nat) : List Int := (List.range n).map fun (k : Nat) => lo + (k : Int)
theorem itr_ok {F : Fr} {S : Fz} {H : Hp} {lo : Int} {n : Nat} (hn : n ≤ 100000) : ItOk F (Itr lo n) ((rng lo n).map yInt) S H := by
  have e : ((rng lo n).map yInt).length = n := by simp [rng]
  unfold ItOk
  rw [e]
  refine ⟨sz hn, fun S1 H1 l _ => ?_⟩
  refine ⟨fun i hi => hi, Nat.le_refl _, fun i x H' hi y => ⟨yInt (lo + i), ?_, .inl y.1, y.2⟩⟩
  simp [rng, hi]
/-- the numbers of a range must not be too large -/
theorem wi_rng1 (h : WA A E Γ tr c fun Γ1 gs c1 => ∃ n : Int, ∃ k', gs = [.val (yInt n)] ∧ c1 = (guard (-40000 ≤ n ∧ n ≤ 40000)).bind k' ∧ κi Γ1 ((rng 0 n.toNat).map yInt) (k' ())) : WI A E Γ (iRng1 tr) c κi := fun F T S σ H Q O R hc k => by
  refine h F T S σ H _ O R hc fun Γ1 gs c1 h1 S1 H1 xs R1 l1 p1 hc1 => ?_
  obtain ⟨n, k', rfl, rfl, h1⟩ := h1
  match xs, p1 with
  | [v], p1 =>
    have e : v = .int n := p1.1
    subst e
    unfold guard at hc1
    by_cases z : -40000 ≤ n ∧ n ≤ 40000
    · rw [if_pos z] at hc1
      exact ⟨n, rfl, by omega, by omega, k _ _ _ h1 S1 H1 _ R1 l1 hc1 (itr_ok (by omega))⟩
    · rw [if_neg z] at hc1
      exact absurd hc1 O.nb
/-! ### loops -/
theorem ItOk.walk {F : Fr} {J : It} {S : Fz} {H : Hp} (h : ItOk F J ps S H) : Walk J ps.length (fun H' => ∃ S', Le S H S' H' ∧ FrOk F S' H') (fun i H1 x H' => ∃ P, ps[i]? = some P ∧ (H' = H1 ∨ ∃ p o, H1 p = none ∧ H' = upd H1 p o) ∧ ∀ S', Le S H S' H1 → FrOk F S' H1 → P.p S' H' x) :=
  ⟨fun i H1 hi ⟨S', l, f⟩ => (h.2 S' H1 l f).1 i hi, fun H1 ⟨S', l, f⟩ => (h.2 S' H1 l f).2.1, fun i H1 x H' hi ⟨S', l, f⟩ y => by
    obtain ⟨P, h1, h2, h3⟩ := (h.2 S' H1 l f).2.2 i x H' hi y
    refine ⟨P, h1, h2, fun S2 l2 f2 => ?_⟩
    obtain ⟨P', h1', _, h3'⟩ := (h.2 S2 H1 l2 f2).2.2 i x H' hi y
    rw [h1] at h1'; cases h1'
    exact h3'⟩
theorem pfold_drop {σ α : Type} {f : σ → α → Res σ} {xs : List α} {i : Nat} {x : α} {s : σ} (h : xs[i]? = some x) : pfold f s (xs.drop i) = (f s x).bind fun s' => pfold f s' (xs.drop (i + 1)) := by
  have hi : i < xs.length := (List.getElem?_eq_some_iff.mp h).1
  rw [List.drop_eq_getElem_cons hi, (List.getElem?_eq_some_iff.mp h).2]
  rfl
theorem map_at {α β : Type} {f : α → β} {xs : List α} {i : Nat} {y : β} (h : (xs.map f)[i]? = some y) : ∃ x, xs[i]? = some x ∧ y = f x := by
  rw [List.getElem?_map] at h
  obtain ⟨x, h1, h2⟩ := Option.map_eq_some_iff.mp h
  exact ⟨x, h1, h2.symm⟩
theorem Rel.alloc {F : Fr} {S : Fz} {σ : L2.St} {H H' : Hp} (R : Rel F Γ S σ H) (h : H' = H ∨ ∃ p o, H p = none ∧ H' = upd H p o) : Rel F Γ S σ H' ∧ Le S H S H' := by
  rcases h with rfl | ⟨p, o, hp, rfl⟩
  · exact ⟨R, Le.refl⟩
  · exact ⟨R.new hp, le_new hp⟩
/-- the turns of a loop -/
theorem for_core {F : Fr} {T : Res ρ → Prop} {S1 : Fz} {σ : L2.St} {H1 : Hp} {Γ1 : Ctx} {J : It} {D : Ends} {μ α : Type} {t : α → Pv} {f : μ → α → Res μ} {Γs : μ → Ctx} {xs : List α} {s0 : μ} {k : μ → Res ρ} (O : ∀ σ, Ok0 A (E σ) F T) (R1 : Rel F Γ1 S1 σ H1) (hc1 : T ((pfold f s0 xs).bind k)) (it : ItOk F J (xs.map t) S1 H1) (sb : Sub Γ1 (Γs s0))
      (hb : ∀ s x, WG (Γs s) g (t x) fun Γ2 => WS A E Γ2 tb' (f s x) ⟨fun Γ' c' => ∃ s', c' = .ok s' ∧ Sub Γ' (Γs s'), fun _ _ _ => False, fun _ _ => False, fun Γ' c' => ∃ s', c' = .ok s' ∧ Sub Γ' (Γs s')⟩)
      (hd : ∀ s S2 σ2 H2, Rel F (Γs s) S2 σ2 H2 → Le S1 H1 S2 H2 → T (k s) → D.nx σ2 H2) :
    ∃ W : Nat → Nat → L2.St → Hp → Prop, (∃ m, W 0 m σ H1) ∧ ∀ i m σ H, W i m σ H →
      (J.stop i H ∧ D.nx σ H) ∨ (J.go i H ∧ ∃ N : L2.St → Hp → Prop, (∀ σ' H', N σ' H' → ∃ m', m' < m ∧ W (i + 1) m' σ' H') ∧ ∀ x H', J.yld i H x H' → g x σ H' fun σ2 H2 => tb' { D with nx := N, ct := N, bk := D.nx } σ2 H2) := by
  refine for_it it.walk (fun i σ' H' => ∃ s S', Rel F (Γs s) S' σ' H' ∧ Le S1 H1 S' H' ∧ T ((pfold f s (xs.drop i)).bind k)) ⟨s0, S1, R1.sub sb, Le.refl, hc1⟩ (fun i σ' H' _ ⟨_, S', R, l, _⟩ => ⟨S', l, R.fr⟩) ?_ ?_
  · rintro i x σ2 H2 H3 hi ⟨s, S2, R2, l2, hc2⟩ ⟨P, hP, hal, hp⟩
    obtain ⟨y, hy, rfl⟩ := map_at hP
    obtain ⟨R3, l3⟩ := R2.alloc hal
    rw [pfold_drop hy, bind_assoc] at hc2
    refine hb s y F S2 σ2 H3 x _ R3 (hp S2 l2 R2.fr) fun Γ4 h4 σ4 R4 => ?_
    refine h4 F (fun m => T (m.bind fun s' => (pfold f s' (xs.drop (i + 1))).bind k)) S2 σ4 H3 _ (fun σ => ⟨(O σ).nb, (O σ).er⟩) R4 hc2 ⟨?_, fun _ _ _ z => z.elim, fun _ _ z => z.elim, ?_⟩
    · rintro Γ' c' ⟨s', rfl, sb'⟩ S' σ' H' R' l' hc'
      exact ⟨s', S', R'.sub sb', (l2.trans l3).trans l', hc'⟩
    · rintro Γ' c' ⟨s', rfl, sb'⟩ S' σ' H' R' l' hc'
      exact ⟨s', S', R'.sub sb', (l2.trans l3).trans l', hc'⟩
  · rintro σ2 H2 ⟨s, S2, R2, l2, hc2⟩
    rw [List.length_map, List.drop_length] at hc2
    exact hd s S2 σ2 H2 R2 l2 hc2
theorem ws_for {w : TI} {μ α : Type} (t : α → Pv) (h : WI A E Γ w c fun Γ1 ps c1 => ∃ (f : μ → α → Res μ) (Γs : μ → Ctx) (xs : List α) (s0 : μ) (k : μ → Res ρ), ps = xs.map t ∧ c1 = (pfold f s0 xs).bind k ∧ Sub Γ1 (Γs s0) ∧
      (∀ s x, WG (Γs s) g (t x) fun Γ2 => WS A E Γ2 tb' (f s x) ⟨fun Γ' c' => ∃ s', c' = .ok s' ∧ Sub Γ' (Γs s'), fun _ _ _ => False, fun _ _ => False, fun Γ' c' => ∃ s', c' = .ok s' ∧ Sub Γ' (Γs s')⟩) ∧ ∀ s, Δ.nx (Γs s) (k s)) : WS A E Γ (tFor w g tb') c Δ := fun F T S σ H D O R hc d => by
  refine h F T S σ H _ (O σ) R hc fun Γ1 ps c1 h1 S1 H1 J R1 l1 hc1 it => ?_
  obtain ⟨f, Γs, xs, s0, k, rfl, rfl, sb, hb, hk⟩ := h1
  exact for_core O R1 hc1 it sb hb fun s S2 σ2 H2 R2 l2 hc2 => d.nx _ _ (hk s) S2 σ2 H2 R2 (l1.trans l2) hc2
theorem pfor_drop {σ τ α : Type} {f : σ → α → Res (Fl σ τ)} {xs : List α} {i : Nat} {x : α} {s : σ} (h : xs[i]? = some x) : pfor f s (xs.drop i) = (f s x).bind (pnext fun s' => pfor f s' (xs.drop (i + 1))) := by
  have hi : i < xs.length := (List.getElem?_eq_some_iff.mp h).1
  rw [List.drop_eq_getElem_cons hi, (List.getElem?_eq_some_iff.mp h).2]
  rfl
theorem for_coreF {F : Fr} {T : Res ρ → Prop} {S1 : Fz} {σ : L2.St} {H1 : Hp} {Γ1 : Ctx} {J : It} {D : Ends} {μ α τ : Type} {t : α → Pv} {f : μ → α → Res (Fl μ τ)} {Γs : μ → Ctx} {xs : List α} {s0 : μ} {k : μ → Res ρ} {jr : τ → Res ρ} {Rt : Ctx → Vo → Res ρ → Prop} (O : ∀ σ, Ok0 A (E σ) F T) (R1 : Rel F Γ1 S1 σ H1) (hc1 : T ((pfor f s0 xs).thn k jr)) (it : ItOk F J (xs.map t) S1 H1) (sb : Sub Γ1 (Γs s0))
      (hb : ∀ s x, WG (Γs s) g (t x) fun Γ2 => WS A E Γ2 tb' (f s x) ⟨fun Γ' c' => ∃ s', c' = .ok (.nx s') ∧ Sub Γ' (Γs s'), fun Γ' V c' => ∃ r, c' = .ok (.rt r) ∧ Rt Γ' V (jr r), fun Γ' c' => ∃ s', c' = .ok (.br s') ∧ Sub Γ' (Γs s'), fun Γ' c' => ∃ s', c' = .ok (.nx s') ∧ Sub Γ' (Γs s')⟩)
      (hd : ∀ s S2 σ2 H2, Rel F (Γs s) S2 σ2 H2 → Le S1 H1 S2 H2 → T (k s) → D.nx σ2 H2)
      (hr : ∀ Γ' V c', Rt Γ' V c' → ∀ S' σ' H' v, Rel F Γ' S' σ' H' → Le S1 H1 S' H' → V.is F Γ' σ' S' H' v → T c' → D.rt v H') :
    ∃ W : Nat → Nat → L2.St → Hp → Prop, (∃ m, W 0 m σ H1) ∧ ∀ i m σ H, W i m σ H →
      (J.stop i H ∧ D.nx σ H) ∨ (J.go i H ∧ ∃ N : L2.St → Hp → Prop, (∀ σ' H', N σ' H' → ∃ m', m' < m ∧ W (i + 1) m' σ' H') ∧ ∀ x H', J.yld i H x H' → g x σ H' fun σ2 H2 => tb' { D with nx := N, ct := N, bk := D.nx } σ2 H2) := by
  refine for_it it.walk (fun i σ' H' => ∃ s S', Rel F (Γs s) S' σ' H' ∧ Le S1 H1 S' H' ∧ T ((pfor f s (xs.drop i)).thn k jr)) ⟨s0, S1, R1.sub sb, Le.refl, hc1⟩ (fun i σ' H' _ ⟨_, S', R, l, _⟩ => ⟨S', l, R.fr⟩) ?_ ?_
  · rintro i x σ2 H2 H3 hi ⟨s, S2, R2, l2, hc2⟩ ⟨P, hP, hal, hp⟩
    obtain ⟨y, hy, rfl⟩ := map_at hP
    obtain ⟨R3, l3⟩ := R2.alloc hal
    rw [pfor_drop hy, Res.thn, bind_assoc] at hc2
    refine hb s y F S2 σ2 H3 x _ R3 (hp S2 l2 R2.fr) fun Γ4 h4 σ4 R4 => ?_
    refine h4 F (fun m => T (m.bind fun a => (pnext (fun s' => pfor f s' (xs.drop (i + 1))) a).bind (pafter k jr))) S2 σ4 H3 _ (fun σ => ⟨(O σ).nb, (O σ).er⟩) R4 hc2 ⟨?_, ?_, ?_, ?_⟩
    · rintro Γ' c' ⟨s', rfl, sb'⟩ S' σ' H' R' l' hc'
      exact ⟨s', S', R'.sub sb', (l2.trans l3).trans l', hc'⟩
    · rintro Γ' V c' ⟨r, rfl, q⟩ S' σ' H' v R' l' hv hc'
      exact hr _ _ _ q S' σ' H' v R' ((l2.trans l3).trans l') hv hc'
    · rintro Γ' c' ⟨s', rfl, sb'⟩ S' σ' H' R' l' hc'
      exact hd s' S' σ' H' (R'.sub sb') ((l2.trans l3).trans l') hc'
    · rintro Γ' c' ⟨s', rfl, sb'⟩ S' σ' H' R' l' hc'
      exact ⟨s', S', R'.sub sb', (l2.trans l3).trans l', hc'⟩
  · rintro σ2 H2 ⟨s, S2, R2, l2, hc2⟩
    rw [List.length_map, List.drop_length] at hc2
    exact hd s S2 σ2 H2 R2 l2 hc2
theorem ws_forF {w : TI} {μ α τ : Type} (t : α → Pv) (h : WI A E Γ w c fun Γ1 ps c1 => ∃ (f : μ → α → Res (Fl μ τ)) (Γs : μ → Ctx) (xs : List α) (s0 : μ) (k : μ → Res ρ) (jr : τ → Res ρ), ps = xs.map t ∧ c1 = (pfor f s0 xs).thn k jr ∧ Sub Γ1 (Γs s0) ∧
      (∀ s x, WG (Γs s) g (t x) fun Γ2 => WS A E Γ2 tb' (f s x) ⟨fun Γ' c' => ∃ s', c' = .ok (.nx s') ∧ Sub Γ' (Γs s'), fun Γ' V c' => ∃ r, c' = .ok (.rt r) ∧ Δ.rt Γ' V (jr r), fun Γ' c' => ∃ s', c' = .ok (.br s') ∧ Sub Γ' (Γs s'), fun Γ' c' => ∃ s', c' = .ok (.nx s') ∧ Sub Γ' (Γs s')⟩) ∧ ∀ s, Δ.nx (Γs s) (k s)) : WS A E Γ (tFor w g tb') c Δ := fun F T S σ H D O R hc d => by
  refine h F T S σ H _ (O σ) R hc fun Γ1 ps c1 h1 S1 H1 J R1 l1 hc1 it => ?_
  obtain ⟨f, Γs, xs, s0, k, jr, rfl, rfl, sb, hb, hk⟩ := h1
  exact for_coreF O R1 hc1 it sb hb (fun s S2 σ2 H2 R2 l2 hc2 => d.nx _ _ (hk s) S2 σ2 H2 R2 (l1.trans l2) hc2) fun Γ' V c' q S' σ' H' v R' l' => d.rt Γ' V c' q S' σ' H' v R' (l1.trans l')
end
end Mi
namespace Mi
open PySem PySem.Spec PyProof.Rows L2
open Sl (isTup sz szl)
/-! ### regions: a part of the walk under a frame of its own -/
def Fr.at (F : Fr) (S : Fz) (H : Hp) (I : Fz) : Fr := ⟨S, H, I, F.ad⟩
/-- owned slots are not spoken of -/
def valsC : Ctx → Ctx
  | [] => []
  | .own _ _ :: Γ => .any :: valsC Γ
  | x :: Γ => x :: valsC Γ
def wipeC (Γ : Ctx) : List Nat → Ctx
  | [] => Γ
  | v :: vs => (wipeC Γ vs).set v .any
section
variable {F : Fr} {Γ Γ' : Ctx} {S S' S2 : Fz} {σ σ2 : L2.St} {H H' H2 : Hp} {p a : Addr} {o o' : HO} {i : Nat} {v : V} {P : Pv} {O O' : Ow} {b : Bool}
theorem valsC_len : ∀ Γ : Ctx, (valsC Γ).length = Γ.length
  | [] => rfl
  | .own _ _ :: Γ => congrArg Nat.succ (valsC_len Γ)
  | .any :: Γ => congrArg Nat.succ (valsC_len Γ)
  | .val _ :: Γ => congrArg Nat.succ (valsC_len Γ)
theorem valsC_at : ∀ {Γ : Ctx} {i : Nat} {x : Slt}, (valsC Γ)[i]? = some x → x = .any ∨ (Γ[i]? = some x ∧ ∀ b O, x ≠ .own b O)
  | [], _, _, h => by simp [valsC] at h
  | .own _ _ :: Γ, 0, x, h => by simp [valsC] at h; exact .inl h.symm
  | .any :: Γ, 0, x, h => by simp [valsC] at h; exact .inl h.symm
  | .val _ :: Γ, 0, x, h => by
    simp only [valsC, List.getElem?_cons_zero] at h
    exact .inr ⟨h, fun b O z => by rw [z] at h; cases h⟩
  | .own _ _ :: Γ, i + 1, x, h => valsC_at (Γ := Γ) (i := i) (by simpa [valsC] using h)
  | .any :: Γ, i + 1, x, h => valsC_at (Γ := Γ) (i := i) (by simpa [valsC] using h)
  | .val _ :: Γ, i + 1, x, h => valsC_at (Γ := Γ) (i := i) (by simpa [valsC] using h)
theorem Rel.wipe (R : Rel F Γ S σ H) : ∀ (vs : List Nat), Rel F (wipeC Γ vs) S (L2.wipe σ vs) H
  | [] => R
  | v :: vs => (Rel.wipe R vs).wipe1 none (.inr (.inr trivial))
theorem Rel.vals (R : Rel F Γ S σ H) : Rel F (valsC Γ) S σ H where
  fr := R.fr
  len := R.len.trans (valsC_len Γ).symm
  val := fun i P h => (valsC_at h).elim (fun z => nomatch z) fun z => R.val i P z.1
  own := fun i b O h => (valsC_at h).elim (fun z => nomatch z) fun z => absurd rfl (z.2 b O)
  sep := fun i j b b' O O' a h _ => (valsC_at h).elim (fun z => nomatch z) fun z => absurd rfl (z.2 b O)
/-- only values: any frame -/
theorem Rel.into (R : Rel F (valsC Γ) S σ H) (l : Le S H S' H') (sd : ∀ a, S' a → H' a ≠ none) (I : Fz) : Rel (F.at S' H' I) (valsC Γ) S' σ H' where
  fr := ⟨fun _ _ h _ => h, fun _ h => .inl h, fun _ h => h, fun _ h => h, sd⟩
  len := R.len
  val := fun i P h => by
    obtain ⟨v, e, hv⟩ := R.val i P h
    exact ⟨v, e, P.up l hv⟩
  own := fun i b O h => (valsC_at h).elim (fun z => nomatch z) fun z => absurd rfl (z.2 b O)
  sep := fun i j b b' O O' a h _ => (valsC_at h).elim (fun z => nomatch z) fun z => absurd rfl (z.2 b O)
/-- behind a region that touched nothing of what stood -/
theorem Rel.back {ad : Nat → Addr} (R : Rel F Γ S σ H) (l : Le S H S' H') (f : FrOk ⟨S, H, fun _ => False, ad⟩ S' H') : Rel F Γ S' σ H' :=
  R.move l (fun a o h _ => f.kp a o h fun z => z) (fun a h => (f.fz a h).imp id fun z => z.elim id fun z => z.elim) f.sd (fun a h => f.dm a h)
    fun i b O a o _ _ h1 h2 => ⟨o, f.kp a o h1 fun z => z, O.up l h2⟩
/-- a region with what is held -/
theorem Rel.enter (R : Rel F Γ S σ H) : Rel (F.at S H (Held Γ σ)) Γ S σ H where
  fr := ⟨fun _ _ h _ => h, fun _ h => .inl h, fun _ h => h, fun _ h => h, R.fr.sd⟩
  len := R.len
  val := R.val
  own := fun i b O h => by
    obtain ⟨a, o, e1, e2, e3, e4, e5, e6⟩ := R.own i b O h
    exact ⟨a, o, e1, e2, e3, e4, .inl ⟨i, b, O, h, e1⟩, e6⟩
  sep := R.sep
theorem Rel.leave (R : Rel F Γ S σ H) (R' : Rel (F.at S H (Held Γ σ)) Γ' S' σ2 H') : Rel F Γ' S' σ2 H' := by
  have hI : ∀ a, Held Γ σ a → F.I a ∨ F.H0 a = none := fun a ⟨i, b, O, h1, h2⟩ => by
    obtain ⟨a', o, e1, _, _, _, e5, _⟩ := R.own i b O h1
    rw [h2] at e1; cases e1
    exact e5
  refine ⟨⟨fun a o h n => R'.fr.kp a o (R.fr.kp a o h n) fun z => (hI a z).elim n (fun z => by rw [z] at h; cases h), fun a h => ?_, fun a h => R'.fr.le a (R.fr.le a h), fun a h => R'.fr.dm a (R.fr.dm a h), R'.fr.sd⟩, R'.len, R'.val, fun i b O h => ?_, R'.sep⟩
  · rcases R'.fr.fz a h with h | h | h
    · exact R.fr.fz a h
    · exact .inr (.inl (R.fr.fresh h))
    · exact (hI a h).elim (fun z => .inr (.inr z)) fun z => .inr (.inl z)
  · obtain ⟨a, o, e1, e2, e3, e4, e5, e6⟩ := R'.own i b O h
    exact ⟨a, o, e1, e2, e3, e4, e5.elim (hI a) fun z => .inr (R.fr.fresh z), e6⟩
theorem FrOk.leave {F : Fr} (R : Rel F Γ S σ H) {ad : Nat → Addr} (f : FrOk ⟨S, H, Held Γ σ, ad⟩ S' H') : FrOk F S' H' := by
  have hI : ∀ a, Held Γ σ a → F.I a ∨ F.H0 a = none := fun a ⟨i, b, O, h1, h2⟩ => by
    obtain ⟨a', o, e1, _, _, _, e5, _⟩ := R.own i b O h1
    rw [h2] at e1; cases e1
    exact e5
  refine ⟨fun a o h n => f.kp a o (R.fr.kp a o h n) fun z => (hI a z).elim n (fun z => by rw [z] at h; cases h), fun a h => ?_, fun a h => f.le a (R.fr.le a h), fun a h => f.dm a (R.fr.dm a h), f.sd⟩
  rcases f.fz a h with h | h | h
  · exact R.fr.fz a h
  · exact .inr (.inl (R.fr.fresh h))
  · exact (hI a h).elim (fun z => .inr (.inr z)) fun z => .inr (.inl z)
/-- the slots vs forgotten or not: nothing is said of them -/
theorem wipe_at {vs : List Nat} {i : Nat} (h : i ∉ vs) : (L2.wipe σ vs)[i]? = σ[i]? := by
  induction vs with
  | nil => rfl
  | cons v vs ih =>
    simp only [List.mem_cons, not_or] at h
    rw [L2.wipe, List.getElem?_set_ne (Ne.symm h.1), ih h.2]
theorem wipeC_at {vs : List Nat} {i : Nat} {x : Slt} (h : i ∈ vs) (e : (wipeC Γ vs)[i]? = some x) : x = .any := by
  induction vs with
  | nil => exact absurd h List.not_mem_nil
  | cons v vs ih =>
    rw [wipeC] at e
    rcases set_at e with ⟨_, e⟩ | ⟨n, e⟩
    · exact e
    · exact ih ((List.mem_cons.mp h).resolve_left n) e
theorem Rel.unwipe {vs : List Nat} (R : Rel F (wipeC Γ vs) S σ H) (h : L2.wipe σ vs = L2.wipe σ2 vs) (hl : σ2.length = σ.length) : Rel F (wipeC Γ vs) S σ2 H := by
  have key : ∀ (i : Nat) (x : Slt), (wipeC Γ vs)[i]? = some x → x ≠ Slt.any → σ2[i]? = σ[i]? := fun i x e n => by
    have : i ∉ vs := fun z => n (wipeC_at z e)
    rw [← wipe_at (σ := σ2) this, ← wipe_at (σ := σ) this, h]
  refine ⟨R.fr, hl.trans R.len, fun i P e => ?_, fun i b O e => ?_, fun i j b b' O O' a e1 e2 e3 e4 => ?_⟩
  · rw [key i _ e fun z => nomatch z]; exact R.val i P e
  · rw [key i _ e fun z => nomatch z]; exact R.own i b O e
  · rw [key i _ e1 fun z => nomatch z] at e3
    rw [key j _ e2 fun z => nomatch z] at e4
    exact R.sep i j b b' O O' a e1 e2 e3 e4
end
/-- a target of a comprehension's own names -/
structure GK (g : TG) (vs : List Nat) : Prop where
  mono : ∀ (x : V) (σ : L2.St) (H : Hp) (Q Q' : L2.St → Hp → Prop), (∀ σ' H', Q σ' H' → Q' σ' H') → g x σ H Q → g x σ H Q'
  keep : ∀ (x : V) (σ : L2.St) (H : Hp) (Q : L2.St → Hp → Prop), g x σ H Q → g x σ H fun σ' H' => (L2.wipe σ' vs = L2.wipe σ vs ∧ σ'.length = σ.length) ∧ Q σ' H'
structure GKs (g : TGs) (vs : List Nat) : Prop where
  mono : ∀ (x : List V) (σ : L2.St) (H : Hp) (Q Q' : L2.St → Hp → Prop), (∀ σ' H', Q σ' H' → Q' σ' H') → g x σ H Q → g x σ H Q'
  keep : ∀ (x : List V) (σ : L2.St) (H : Hp) (Q : L2.St → Hp → Prop), g x σ H Q → g x σ H fun σ' H' => (L2.wipe σ' vs = L2.wipe σ vs ∧ σ'.length = σ.length) ∧ Q σ' H'
theorem wipe_set_out {σ : L2.St} {j : Nat} {y : Option V} : ∀ {vs : List Nat}, j ∉ vs → L2.wipe (σ.set j y) vs = (L2.wipe σ vs).set j y
  | [], _ => rfl
  | v :: vs, h => by
    simp only [List.mem_cons, not_or] at h
    rw [L2.wipe, L2.wipe, wipe_set_out h.2, List.set_comm _ _ h.1]
theorem wipe_set {σ : L2.St} {j : Nat} {y : Option V} : ∀ {vs : List Nat}, j ∈ vs → L2.wipe (σ.set j y) vs = L2.wipe σ vs
  | v :: vs, h => by
    by_cases z : j ∈ vs
    · rw [L2.wipe, L2.wipe, wipe_set z]
    · have e : j = v := (List.mem_cons.mp h).resolve_right z
      subst e
      rw [L2.wipe, L2.wipe, wipe_set_out z, List.set_set]
theorem gk_name {j : Nat} {vs : List Nat} (h : j ∈ vs) : GK (gName j) vs := ⟨fun x σ H Q Q' k q => k _ _ q, fun x σ H Q q => ⟨⟨wipe_set h, List.length_set⟩, q⟩⟩
theorem gks_nil {vs : List Nat} : GKs gNil vs := ⟨fun x σ H Q Q' k q => ⟨q.1, k _ _ q.2⟩, fun x σ H Q q => ⟨q.1, ⟨rfl, rfl⟩, q.2⟩⟩
theorem gks_cons {g : TG} {gs : TGs} {vs : List Nat} (h : GK g vs) (k : GKs gs vs) : GKs (gCons g gs) vs :=
  ⟨fun x σ H Q Q' m ⟨v, r, e, q⟩ => ⟨v, r, e, h.mono _ _ _ _ _ (fun σ' H' q => k.mono _ _ _ _ _ m q) q⟩, fun x σ H Q ⟨v, r, e, q⟩ => ⟨v, r, e, h.mono _ _ _ _ _ (fun σ' H' q => k.mono _ _ _ _ _ (fun σ2 H2 q2 => ⟨⟨q2.1.1.trans q.1.1, q2.1.2.trans q.1.2⟩, q2.2⟩) (k.keep _ _ _ _ q.2)) (h.keep _ _ _ _ q)⟩⟩
theorem gk_tup {K : PySem.W.Frag} {n : Nat} {gs : TGs} {vs : List Nat} (k : GKs gs vs) : GK (gTup K n gs) vs :=
  ⟨fun x σ H Q Q' m ⟨a, xs, e, h1, h2, q⟩ => ⟨a, xs, e, h1, h2, k.mono _ _ _ _ _ m q⟩, fun x σ H Q ⟨a, xs, e, h1, h2, q⟩ => ⟨a, xs, e, h1, h2, k.keep _ _ _ _ q⟩⟩
/-- nothing is wanted of an exception -/
def ET : L2.St → XK := fun _ _ _ _ => True
theorem erT (A : Nat → Addr) {e : Er} {H : Hp} {σ : L2.St} : ErH A e (ET σ) H := by
  unfold ErH
  split
  · trivial
  · exact fun _ _ _ => trivial
  · exact fun _ _ _ => trivial
theorem ok_unit (A : Nat → Addr) (E : XK) (F : Fr) : Ok0 A E F (fun m : Res Unit => m = .ok ()) := ⟨(fun z => nomatch z), fun e z => nomatch z⟩
section
variable {ρ : Type} {A : Nat → Addr} {E : L2.St → XK} {K : PySem.W.Frag} {Γ : Ctx} {c : Res ρ} {κ : Ctx → Vo → Res ρ → Prop} {te : TE} {tt : TT} {g : TG} {w : TI} {vs : List Nat}
/-! ### comprehensions -/
theorem wipe_sub {σ : L2.St} {vs : List Nat} : ∀ {us : List Nat}, (∀ u ∈ us, u ∈ vs) → L2.wipe (L2.wipe σ us) vs = L2.wipe σ vs
  | [], _ => rfl
  | u :: us, h => by rw [L2.wipe, wipe_set (h u (List.mem_cons_self ..)), wipe_sub fun x hx => h x (List.mem_cons_of_mem _ hx)]
theorem take_step {α β : Type} {xs : List α} {i : Nat} {y : α} (p : α → Bool) (e : α → β) (hy : xs[i]? = some y) : ((xs.take (i + 1)).filter p).map e = ((xs.take i).filter p).map e ++ (if p y = true then [e y] else []) := by
  rw [List.take_add_one, hy, List.filter_append, List.map_append]
  cases z : p y <;> simp [z]
theorem comp0 {F : Fr} {S S' : Fz} {H H' : Hp} (R : FrOk F S H) (f : FrOk ⟨S, H, fun _ => False, F.ad⟩ S' H') : FrOk F S' H' := by
  refine ⟨fun a o h n => f.kp a o (R.kp a o h n) fun z => z, fun a h => ?_, fun a h => f.le a (R.le a h), fun a h => f.dm a (R.dm a h), f.sd⟩
  rcases f.fz a h with h | h | h
  · exact R.fz a h
  · exact .inr (.inl (R.fresh h))
  · exact h.elim
/-- plain parts -/
theorem wx_lc {α β : Type} (t : α → Pv) (u : β → Pv) (p : α → Bool) (e : α → β) (gk : GK g vs) (h : WI A E Γ w c fun Γ1 ps c1 => ∃ xs : List α, ps = xs.map t ∧
      (∀ x, WG (valsC (wipeC Γ1 vs)) g (t x) fun Γ2 => WT A ET Γ2 tt (.ok () : Res Unit) fun Γ3 b c3 => b = p x ∧ (b = true → WX A ET Γ3 te c3 fun Γ4 V c4 => V = .val (u (e x)))) ∧ κ Γ1 (.own (oLst K (((xs.filter p).map e).map u))) c1) : WX A E Γ (tLc w g tt te vs) c κ := fun F T S σ H Q O R hc k => by
  refine h F T S σ H _ O R hc fun Γ1 ps c1 h1 S1 H1 J R1 l1 hc1 it D hD => ?_
  obtain ⟨xs, rfl, hb, hk⟩ := h1
  have hD0 : ¬ S1 D := R1.fr.nfz hD
  have RV := (R1.wipe vs).vals
  have hlen : xs.length ≤ sizeLine := by have := it.1; rwa [List.length_map] at this
  refine lc_it it.walk (fun i H' => ∃ S', FrOk ⟨S1, H1, fun _ => False, F.ad⟩ S' H' ∧ Le S1 H1 S' H' ∧ ¬ S' D ∧ ∃ acc, H' D = some (.lst acc) ∧ PsOk S' H' acc ((((xs.take i).filter p).map e).map u) ∧ acc.length ≤ i) ?_ (fun i H' _ ⟨S', f, l, _⟩ => ⟨S', l, comp0 R1.fr f⟩) ?_ ?_
  · refine ⟨S1, ⟨fun a o h _ => by rw [upd_ne (ne_of_none h hD)]; exact h, fun a h => .inl h, fun a h => h, fun a h => upd_some h, fun a h => upd_some (R1.fr.sd a h)⟩, le_new hD, hD0, [], upd_same, trivial, Nat.le_refl _⟩
  · rintro i x H2 H3 hi ⟨S2, f2, l2, n2, acc, a1, a2, a3⟩ ⟨P, hP, hal, hp⟩
    obtain ⟨y, hy, rfl⟩ := map_at hP
    have R2 := RV.into l2 f2.sd fun _ => False
    obtain ⟨R3, l3⟩ := R2.alloc hal
    have tk := take_step p e hy
    have a4 : acc.length < sizeLine := by
      have h2 : i < xs.length := by simpa using hi
      omega
    refine gk.mono _ _ _ _ _ ?_ (gk.keep _ _ _ _ (hb y _ S2 (L2.wipe σ vs) H3 x (fun σ4 H4 => H4 = H3 ∧ ∃ Γ4, Rel (F.at S2 H2 fun _ => False) Γ4 S2 σ4 H4 ∧ WT A ET Γ4 tt (.ok () : Res Unit) fun Γ3 b c3 => b = p y ∧ (b = true → WX A ET Γ3 te c3 fun Γ4 V c4 => V = .val (u (e y)))) R3 (hp S2 l2 (comp0 R1.fr f2)) fun Γ4 h4 σ4 R4 => ⟨rfl, Γ4, R4, h4⟩))
    rintro σ4 H4 ⟨⟨k1, _⟩, rfl, Γ4, R4, h4⟩
    refine ⟨k1.trans (wipe_sub fun _ h => h), ?_⟩
    have fin : ∀ S6 H6, FrOk (F.at S2 H2 fun _ => False) S6 H6 → FrOk ⟨S1, H1, fun _ => False, F.ad⟩ S6 H6 ∧ H6 D = some (.lst acc) ∧ ¬ S6 D := fun S6 H6 f => ⟨⟨fun a o h _ => f.kp a o (f2.kp a o h fun z => z) fun z => z, fun a h => ?_, fun a h => f.le a (f2.le a h), fun a h => f.dm a (f2.dm a h), f.sd⟩, f.kp D _ a1 fun z => z, fun z => ?_⟩
    · refine h4 _ (fun m => m = .ok ()) S2 σ4 H4 _ (ok_unit A (ET _) _) R4 rfl fun Γ5 b c5 h5 S5 H5 R5 l5 hc5 => ?_
      obtain ⟨rfl, h5⟩ := h5
      cases hpy : p y with
      | true =>
        rw [if_pos rfl]
        refine h5 hpy _ (fun m => m = .ok ()) S5 σ4 H5 _ (ok_unit A (ET _) _) R5 hc5 fun Γ6 V c6 h6 S6 H6 z R6 l6 hz hc6 => ?_
        subst h6
        obtain ⟨f6, d6, n6⟩ := fin S6 H6 R6.fr
        have la : Le S6 H6 S6 (upd H6 D (.lst (acc ++ [z]))) := le_mut d6 n6 rfl
        have l26 : Le S2 H2 S6 H6 := (l3.trans l5).trans l6
        refine ⟨acc, d6, a4, S6, ⟨fun a o h q => by rw [upd_ne (ne_of_none h hD)]; exact f6.kp a o h q, f6.fz, f6.le, fun a h => upd_some (f6.dm a h), fun a h => upd_some (f6.sd a h)⟩, (l2.trans l26).trans la, n6, _, upd_same, ?_, by rw [List.length_append]; simp; omega⟩
        rw [tk, if_pos hpy, List.map_append]
        exact ((a2.up l26).snoc hz).up la
      | false =>
        rw [if_neg (by simp)]
        obtain ⟨f6, d6, n6⟩ := fin S5 H5 R5.fr
        refine ⟨S5, f6, (l2.trans l3).trans l5, n6, acc, d6, ?_, by omega⟩
        rw [tk, if_neg (by rw [hpy]; simp), List.append_nil]
        exact a2.up (l3.trans l5)
    · rcases f.fz a h with h | h | h
      · exact f2.fz a h
      · exact .inr (.inl (f2.fresh h))
      · exact h.elim
    · rcases f.fz D z with h | h | h
      · exact n2 h
      · have h : H2 D = none := h
        rw [a1] at h; cases h
      · exact h
  · rintro H2 ⟨S2, f2, l2, n2, acc, a1, a2, a3⟩
    rw [List.length_map, List.take_length] at a2
    rw [List.length_map] at a3
    have R2 := R1.back l2 f2
    exact k _ _ _ hk S2 H2 _ R2 (l1.trans l2) ⟨D, _, rfl, a1, ⟨acc, rfl, a2, by omega⟩, n2, .inr (R1.fr.fresh hD), fun z => z.dom R1 hD⟩ hc1
/-- .. no test -/
theorem wx_lcA {α β : Type} (t : α → Pv) (u : β → Pv) (e : α → β) (gk : GK g vs) (h : WI A E Γ w c fun Γ1 ps c1 => ∃ xs : List α, ps = xs.map t ∧
      (∀ x, WG (valsC (wipeC Γ1 vs)) g (t x) fun Γ2 => WX A ET Γ2 te (.ok () : Res Unit) fun Γ4 V c4 => V = .val (u (e x))) ∧ κ Γ1 (.own (oLst K ((xs.map e).map u))) c1) : WX A E Γ (tLc w g tYes te vs) c κ :=
  wx_lc (A := A) (E := E) (K := K) t u (fun _ => true) e gk fun F T S σ H Q O R hc k => h F T S σ H Q O R hc fun Γ' ps c' ⟨xs, h1, h2, h3⟩ => k Γ' ps c' ⟨xs, h1, fun x F S σ H v Q R hp kk => h2 x F S σ H v Q R hp fun Γ2 h4 => kk Γ2 (wt_yes ⟨rfl, fun _ => h4⟩), by rw [List.filter_eq_self.mpr fun _ _ => rfl]; exact h3⟩
end
end Mi
namespace Mi
open PySem PySem.Spec PyProof.Rows L2
open Sl (isTup sz szl)
section
variable {F : Fr} {Γ Γ' : Ctx} {S S' S2 : Fz} {σ σ2 : L2.St} {H H' H2 : Hp}
theorem FrOk.comp {I : Fz} (R : FrOk F S H) (f : FrOk (F.at S H I) S' H') (hI : ∀ a, I a → F.I a ∨ F.H0 a = none) : FrOk F S' H' := by
  refine ⟨fun a o h n => f.kp a o (R.kp a o h n) fun z => (hI a z).elim n (fun z => by rw [z] at h; cases h), fun a h => ?_, fun a h => f.le a (R.le a h), fun a h => f.dm a (R.dm a h), f.sd⟩
  rcases f.fz a h with h | h | h
  · exact R.fz a h
  · exact .inr (.inl (R.fresh h))
  · exact (hI a h).elim (fun z => .inr (.inr z)) fun z => .inr (.inl z)
theorem Rel.hI (R : Rel F Γ S σ H) : ∀ a, Held Γ σ a → F.I a ∨ F.H0 a = none := fun a ⟨i, b, O, h1, h2⟩ => by
  obtain ⟨a', o, e1, _, _, _, e5, _⟩ := R.own i b O h1
  rw [h2] at e1; cases e1
  exact e5
theorem pml_drop {α β : Type} {f : α → Res (Option β)} {xs : List α} {i : Nat} {x : α} (h : xs[i]? = some x) : pml f (xs.drop i) = (f x).bind fun r => (pml f (xs.drop (i + 1))).bind fun q => .ok (r.toList ++ q) := by
  have hi : i < xs.length := (List.getElem?_eq_some_iff.mp h).1
  rw [List.drop_eq_getElem_cons hi, (List.getElem?_eq_some_iff.mp h).2]
  rfl
theorem plc_drop {σ α β : Type} {f : σ → α → Res (Option β × σ)} {xs : List α} {i : Nat} {x : α} {s : σ} (h : xs[i]? = some x) : plc f s (xs.drop i) = (f s x).bind fun r => (plc f r.2 (xs.drop (i + 1))).bind fun q => .ok (r.1.toList ++ q.1, q.2) := by
  have hi : i < xs.length := (List.getElem?_eq_some_iff.mp h).1
  rw [List.drop_eq_getElem_cons hi, (List.getElem?_eq_some_iff.mp h).2]
  rfl
end
section
variable {ρ : Type} {A : Nat → Addr} {E : L2.St → XK} {K : PySem.W.Frag} {Γ : Ctx} {c : Res ρ} {κ : Ctx → Vo → Res ρ → Prop} {te : TE} {tt : TT} {g : TG} {w : TI} {vs : List Nat}
/-- parts that may fail, at one place -/
theorem lcU_at {α β : Type} (t : α → Pv) (u : β → Pv) (gk : GK g vs) {F : Fr} {T : Res ρ → Prop} {S : Fz} {σ : L2.St} {H : Hp} {Q : VK} (O : Ok0 A (E σ) F T) (h : ∀ Rr : It → Hp → Prop, (∀ Γ1 ps c1, (∃ (f : α → Res (Option β)) (xs : List α) (k : List β → Res ρ), ps = xs.map t ∧ c1 = (pml f xs).bind k ∧
      (∀ x, WG (valsC (wipeC Γ1 vs)) g (t x) fun Γ2 => WT A ET Γ2 tt (f x) fun Γ3 b c3 => ∃ m : Res (Option β), c3 = (if b = true then m else .ok none) ∧ (WX A ET Γ3 te m fun Γ4 V c4 => ∃ y, V = .val (u y) ∧ c4 = .ok (some y))) ∧ ∀ ys, κ Γ1 (.own (oLst K (ys.map u))) (k ys)) → ∀ S' H' J, Rel F Γ1 S' σ H' → Le S H S' H' → T c1 → ItOk F J ps S' H' → Rr J H') → w σ H Rr)
      (k : ∀ Γ' V c', κ Γ' V c' → ∀ S' H' v, Rel F Γ' S' σ H' → Le S H S' H' → V.is F Γ' σ S' H' v → T c' → Q v H') : tLc w g tt te vs σ H Q := by
  refine h _ fun Γ1 ps c1 h1 S1 H1 J R1 l1 hc1 it D hD => ?_
  obtain ⟨f, xs, kk, rfl, rfl, hb, hk⟩ := h1
  have hD0 : ¬ S1 D := R1.fr.nfz hD
  have RV := (R1.wipe vs).vals
  have hlen : xs.length ≤ sizeLine := by have := it.1; rwa [List.length_map] at this
  refine lc_it it.walk (fun i H' => ∃ S', FrOk (F.at S1 H1 fun _ => False) S' H' ∧ Le S1 H1 S' H' ∧ ¬ S' D ∧ ∃ acc ys, H' D = some (.lst acc) ∧ PsOk S' H' acc (ys.map u) ∧ acc.length ≤ i ∧ T ((pml f (xs.drop i)).bind fun q => kk (ys ++ q))) ?_ (fun i H' _ ⟨S', f, l, _⟩ => ⟨S', l, comp0 R1.fr f⟩) ?_ ?_
  · refine ⟨S1, ⟨fun a o h _ => by rw [upd_ne (ne_of_none h hD)]; exact h, fun a h => .inl h, fun a h => h, fun a h => upd_some h, fun a h => upd_some (R1.fr.sd a h)⟩, le_new hD, hD0, [], [], upd_same, trivial, Nat.le_refl _, hc1⟩
  · rintro i x H2 H3 hi ⟨S2, f2, l2, n2, acc, ys, a1, a2, a3, hc2⟩ ⟨P, hP, hal, hp⟩
    obtain ⟨y, hy, rfl⟩ := map_at hP
    have R2 := RV.into l2 f2.sd fun _ => False
    obtain ⟨R3, l3⟩ := R2.alloc hal
    rw [pml_drop hy, bind_assoc] at hc2
    have a4 : acc.length < sizeLine := by
      have h2 : i < xs.length := by simpa using hi
      omega
    refine gk.mono _ _ _ _ _ ?_ (gk.keep _ _ _ _ (hb y _ S2 (L2.wipe σ vs) H3 x (fun σ4 H4 => H4 = H3 ∧ ∃ Γ4, Rel (F.at S2 H2 fun _ => False) Γ4 S2 σ4 H4 ∧ WT A ET Γ4 tt (f y) fun Γ3 b c3 => ∃ m : Res (Option β), c3 = (if b = true then m else .ok none) ∧ (WX A ET Γ3 te m fun Γ4 V c4 => ∃ y, V = .val (u y) ∧ c4 = .ok (some y))) R3 (hp S2 l2 (comp0 R1.fr f2)) fun Γ4 h4 σ4 R4 => ⟨rfl, Γ4, R4, h4⟩))
    rintro σ4 H4 ⟨⟨k1, _⟩, rfl, Γ4, R4, h4⟩
    refine ⟨k1.trans (wipe_sub fun _ h => h), ?_⟩
    have cm : ∀ S6 H6, FrOk (F.at S2 H2 fun _ => False) S6 H6 → FrOk (F.at S1 H1 fun _ => False) S6 H6 := fun S6 H6 f => FrOk.comp (F := F.at S1 H1 fun _ => False) f2 f fun _ z => z.elim
    have fin : ∀ S6 H6, FrOk (F.at S2 H2 fun _ => False) S6 H6 → H6 D = some (.lst acc) ∧ ¬ S6 D := fun S6 H6 f => ⟨f.kp D _ a1 fun z => z, fun z => ?_⟩
    · refine h4 _ (fun m => T (m.bind fun r => ((pml f (xs.drop (i + 1))).bind fun q => .ok (r.toList ++ q)).bind fun q => kk (ys ++ q))) S2 σ4 H4 _ ⟨O.nb, fun e z S' H' f => erT A⟩ R4 hc2 fun Γ5 b c5 h5 S5 H5 R5 l5 hc5 => ?_
      obtain ⟨m, rfl, h5⟩ := h5
      cases b with
      | true =>
        rw [if_pos rfl]
        refine h5 _ (fun m => T (m.bind fun r => ((pml f (xs.drop (i + 1))).bind fun q => .ok (r.toList ++ q)).bind fun q => kk (ys ++ q))) S5 σ4 H5 _ ⟨O.nb, fun e z S' H' f => erT A⟩ R5 hc5 fun Γ6 V c6 h6 S6 H6 z R6 l6 hz hc6 => ?_
        obtain ⟨y', rfl, rfl⟩ := h6
        obtain ⟨d6, n6⟩ := fin S6 H6 R6.fr
        have f6 := cm S6 H6 R6.fr
        have la : Le S6 H6 S6 (upd H6 D (.lst (acc ++ [z]))) := le_mut d6 n6 rfl
        have l26 : Le S2 H2 S6 H6 := (l3.trans l5).trans l6
        refine ⟨acc, d6, a4, S6, ⟨fun a o h q => by rw [upd_ne (ne_of_none h hD)]; exact f6.kp a o h q, f6.fz, f6.le, fun a h => upd_some (f6.dm a h), fun a h => upd_some (f6.sd a h)⟩, (l2.trans l26).trans la, n6, _, ys ++ [y'], upd_same, ?_, by rw [List.length_append]; simp; omega, ?_⟩
        · rw [List.map_append]
          exact ((a2.up l26).snoc hz).up la
        · simpa [bind_assoc] using hc6
      | false =>
        rw [if_neg (by simp)]
        rw [if_neg (by simp)] at hc5
        obtain ⟨d6, n6⟩ := fin S5 H5 R5.fr
        refine ⟨S5, cm _ _ R5.fr, (l2.trans l3).trans l5, n6, acc, ys, d6, a2.up (l3.trans l5), by omega, ?_⟩
        simpa [bind_assoc] using hc5
    · rcases f.fz D z with h | h | h
      · exact n2 h
      · have h : H2 D = none := h
        rw [a1] at h; cases h
      · exact h
  · rintro H2 ⟨S2, f2, l2, n2, acc, ys, a1, a2, a3, hc2⟩
    rw [List.length_map] at a3
    rw [List.length_map, List.drop_length] at hc2
    have R2 := R1.back l2 f2
    refine k _ _ _ (hk ys) S2 H2 _ R2 (l1.trans l2) ⟨D, _, rfl, a1, ⟨acc, rfl, a2, by omega⟩, n2, .inr (R1.fr.fresh hD), fun z => z.dom R1 hD⟩ ?_
    simpa [pml] using hc2
/-- parts that may fail -/
theorem wx_lcU {α β : Type} (t : α → Pv) (u : β → Pv) (gk : GK g vs) (h : WI A E Γ w c fun Γ1 ps c1 => ∃ (f : α → Res (Option β)) (xs : List α) (k : List β → Res ρ), ps = xs.map t ∧ c1 = (pml f xs).bind k ∧
      (∀ x, WG (valsC (wipeC Γ1 vs)) g (t x) fun Γ2 => WT A ET Γ2 tt (f x) fun Γ3 b c3 => ∃ m : Res (Option β), c3 = (if b = true then m else .ok none) ∧ (WX A ET Γ3 te m fun Γ4 V c4 => ∃ y, V = .val (u y) ∧ c4 = .ok (some y))) ∧ ∀ ys, κ Γ1 (.own (oLst K (ys.map u))) (k ys)) : WX A E Γ (tLc w g tt te vs) c κ := fun F T S σ H Q O R hc k => lcU_at t u gk O (fun Rr hh => h F T S σ H Rr O R hc hh) k
/-- parts that change what is held: Γs by the state -/
theorem wx_lcM {μ α β : Type} (t : α → Pv) (u : β → Pv) (gk : GK g vs) (h : WI A E Γ w c fun Γ1 ps c1 => ∃ (f : μ → α → Res (Option β × μ)) (Γs : μ → Ctx) (xs : List α) (k : List β × μ → Res ρ) (s0 : μ), ps = xs.map t ∧ c1 = (plc f s0 xs).bind k ∧ Sub (wipeC Γ1 vs) (wipeC (Γs s0) vs) ∧
      (∀ s x, WG (wipeC (Γs s) vs) g (t x) fun Γ2 => WT A ET Γ2 tt (f s x) fun Γ3 b c3 => ∃ (m : Res (Option β × μ)) (s1 : μ), c3 = (if b = true then m else .ok (none, s1)) ∧ Sub (wipeC Γ3 vs) (wipeC (Γs s1) vs) ∧ (WX A ET Γ3 te m fun Γ4 V c4 => ∃ y s', V = .val (u y) ∧ c4 = .ok (some y, s') ∧ Sub (wipeC Γ4 vs) (wipeC (Γs s') vs))) ∧ ∀ q : List β × μ, κ (wipeC (Γs q.2) vs) (.own (oLst K (q.1.map u))) (k q)) : WX A E Γ (tLc w g tt te vs) c κ := fun F T S σ H Q O R hc k => by
  refine h F T S σ H _ O R hc fun Γ1 ps c1 h1 S1 H1 J R1 l1 hc1 it D hD => ?_
  obtain ⟨f, Γs, xs, kk, s0, rfl, rfl, sb, hb, hk⟩ := h1
  have hD0 : ¬ S1 D := R1.fr.nfz hD
  have hlen : xs.length ≤ sizeLine := by have := it.1; rwa [List.length_map] at this
  refine lc_it it.walk (fun i H' => ∃ S' s, Rel F (wipeC (Γs s) vs) S' (L2.wipe σ vs) H' ∧ Le S1 H1 S' H' ∧ ¬ S' D ∧ ¬ Held (wipeC (Γs s) vs) (L2.wipe σ vs) D ∧ ∃ acc ys, H' D = some (.lst acc) ∧ PsOk S' H' acc (ys.map u) ∧ acc.length ≤ i ∧ T ((plc f s (xs.drop i)).bind fun q => kk (ys ++ q.1, q.2))) ?_ (fun i H' _ ⟨S', _, R, l, _⟩ => ⟨S', l, R.fr⟩) ?_ ?_
  · have R0 := (R1.wipe vs).sub sb
    exact ⟨S1, s0, R0.new hD, le_new hD, hD0, fun z => z.dom R0 hD, [], [], upd_same, trivial, Nat.le_refl _, hc1⟩
  · rintro i x H2 H3 hi ⟨S2, s, R2, l2, n2, nh, acc, ys, a1, a2, a3, hc2⟩ ⟨P, hP, hal, hp⟩
    obtain ⟨y, hy, rfl⟩ := map_at hP
    obtain ⟨R3, l3⟩ := R2.enter.alloc hal
    rw [plc_drop hy, bind_assoc] at hc2
    have a4 : acc.length < sizeLine := by
      have h2 : i < xs.length := by simpa using hi
      omega
    refine gk.mono _ _ _ _ _ ?_ (gk.keep _ _ _ _ (hb s y _ S2 (L2.wipe σ vs) H3 x (fun σ4 H4 => H4 = H3 ∧ ∃ Γ4, Rel (F.at S2 H2 (Held (wipeC (Γs s) vs) (L2.wipe σ vs))) Γ4 S2 σ4 H4 ∧ WT A ET Γ4 tt (f s y) fun Γ3 b c3 => ∃ (m : Res (Option β × μ)) (s1 : μ), c3 = (if b = true then m else .ok (none, s1)) ∧ Sub (wipeC Γ3 vs) (wipeC (Γs s1) vs) ∧ (WX A ET Γ3 te m fun Γ4 V c4 => ∃ y s', V = .val (u y) ∧ c4 = .ok (some y, s') ∧ Sub (wipeC Γ4 vs) (wipeC (Γs s') vs))) R3 (hp S2 l2 R2.fr) fun Γ4 h4 σ4 R4 => ⟨rfl, Γ4, R4, h4⟩))
    rintro σ4 H4 ⟨⟨k1, k2⟩, rfl, Γ4, R4, h4⟩
    have k1' := k1.trans (wipe_sub fun _ h => h)
    refine ⟨k1', ?_⟩
    have fin : ∀ Γ6 S6 H6 s', Rel (F.at S2 H2 (Held (wipeC (Γs s) vs) (L2.wipe σ vs))) Γ6 S6 σ4 H6 → Sub (wipeC Γ6 vs) (wipeC (Γs s') vs) → H6 D = some (.lst acc) ∧ ¬ S6 D ∧ Rel F (wipeC (Γs s') vs) S6 (L2.wipe σ vs) H6 ∧ ¬ Held (wipeC (Γs s') vs) (L2.wipe σ vs) D := fun Γ6 S6 H6 s' R6 sb6 => by
      have d6 := R6.fr.kp D _ a1 nh
      have n6 : ¬ S6 D := fun z => by
        rcases R6.fr.fz D z with h | h | h
        · exact n2 h
        · have h : H2 D = none := h
          rw [a1] at h; cases h
        · exact nh h
      have R7 := ((R6.wipe vs).sub sb6)
      have R8 := R7.unwipe (σ2 := L2.wipe σ vs) (by rw [wipe_sub fun _ h => h, wipe_sub fun _ h => h]; exact k1') (by rw [L2.wipe_length, L2.wipe_length, k2, L2.wipe_length])
      refine ⟨d6, n6, R2.leave R8, fun ⟨i, b, O, h1, h2⟩ => ?_⟩
      obtain ⟨a', o, e1, e2, e3, e4, e5, e6⟩ := R8.own i b O h1
      rw [h2] at e1; cases e1
      rcases e5 with h | h
      · exact nh h
      · have h : H2 D = none := h
        rw [a1] at h; cases h
    refine h4 _ (fun m => T (m.bind fun r => ((plc f r.2 (xs.drop (i + 1))).bind fun q => .ok (r.1.toList ++ q.1, q.2)).bind fun q => kk (ys ++ q.1, q.2))) S2 σ4 H4 _ ⟨O.nb, fun e z S' H' f => erT A⟩ R4 hc2 fun Γ5 b c5 h5 S5 H5 R5 l5 hc5 => ?_
    obtain ⟨m, s1, rfl, sb5, h5⟩ := h5
    cases b with
    | true =>
      rw [if_pos rfl]
      refine h5 _ (fun m => T (m.bind fun r => ((plc f r.2 (xs.drop (i + 1))).bind fun q => .ok (r.1.toList ++ q.1, q.2)).bind fun q => kk (ys ++ q.1, q.2))) S5 σ4 H5 _ ⟨O.nb, fun e z S' H' f => erT A⟩ R5 hc5 fun Γ6 V c6 h6 S6 H6 z R6 l6 hz hc6 => ?_
      obtain ⟨y', s', rfl, rfl, sb6⟩ := h6
      obtain ⟨d6, n6, R7, nh7⟩ := fin Γ6 S6 H6 s' R6 sb6
      have la : Le S6 H6 S6 (upd H6 D (.lst (acc ++ [z]))) := le_mut d6 n6 rfl
      have l26 : Le S2 H2 S6 H6 := (l3.trans l5).trans l6
      refine ⟨acc, d6, a4, S6, s', ?_, (l2.trans l26).trans la, n6, nh7, _, ys ++ [y'], upd_same, ?_, by rw [List.length_append]; simp; omega, ?_⟩
      · have hD' : F.H0 D = none := R1.fr.fresh hD
        refine ⟨⟨fun a o h q => by rw [upd_ne (ne_of_none h hD')]; exact R7.fr.kp a o h q, R7.fr.fz, R7.fr.le, fun a h => upd_some (R7.fr.dm a h), fun a h => upd_some (R7.fr.sd a h)⟩, R7.len, fun i P h => ?_, fun i b O h => ?_, R7.sep⟩
        · obtain ⟨v, e1, e2⟩ := R7.val i P h
          exact ⟨v, e1, P.up la e2⟩
        · obtain ⟨a, o, e1, e2, e3, e4, e5, e6⟩ := R7.own i b O h
          exact ⟨a, o, e1, by rw [upd_ne (fun z => nh7 ⟨i, b, O, h, by rw [e1, z]⟩)]; exact e2, O.up la e3, e4, e5, e6⟩
      · rw [List.map_append]
        exact ((a2.up l26).snoc hz).up la
      · simpa [bind_assoc] using hc6
    | false =>
      rw [if_neg (by simp)]
      rw [if_neg (by simp)] at hc5
      obtain ⟨d6, n6, R7, nh7⟩ := fin Γ5 S5 H5 s1 R5 sb5
      refine ⟨S5, s1, R7, (l2.trans l3).trans l5, n6, nh7, acc, ys, d6, a2.up (l3.trans l5), by omega, ?_⟩
      simpa [bind_assoc] using hc5
  · rintro H2 ⟨S2, s, R2, l2, n2, nh, acc, ys, a1, a2, a3, hc2⟩
    rw [List.length_map] at a3
    rw [List.length_map, List.drop_length] at hc2
    have R3 := R2.unwipe (σ2 := σ) (wipe_sub fun _ h => h) (by rw [L2.wipe_length])
    refine k _ _ _ (hk (ys, s)) S2 H2 _ R3 (l1.trans l2) ⟨D, _, rfl, a1, ⟨acc, rfl, a2, by omega⟩, n2, .inr (R1.fr.fresh hD), fun ⟨i, b, O, h1, h2⟩ => nh ⟨i, b, O, h1, ?_⟩⟩ ?_
    · have : i ∉ vs := fun z => by have := wipeC_at z h1; cases this
      rw [wipe_at this]; exact h2
    · simpa [plc] using hc2
end
end Mi
namespace Mi
open PySem PySem.Spec PyProof.Rows L2
open Sl (isTup sz szl)
/-! ### what a def promises: a plain function with its arguments and its outcome -/
structure Cl where
  β : Type
  m : Res β
  V : β → Vo
  os : β → List Ow
inductive Ar | val (P : Pv) | io (O : Ow)
def ArsOk (S : Fz) (H : Hp) : List V → List Ar → Prop
  | [], [] => True
  | v :: vs, .val P :: as => P.p S H v ∧ ArsOk S H vs as
  | v :: vs, .io O :: as => (∃ a o, v = .ref a ∧ H a = some o ∧ O.w S H o ∧ ¬ S a) ∧ ArsOk S H vs as
  | _, _ => False
def ioAd : List V → List Ar → List Addr
  | .ref a :: vs, .io _ :: as => a :: ioAd vs as
  | _ :: vs, _ :: as => ioAd vs as
  | _, _ => []
def OsOk (S : Fz) (H : Hp) : List Addr → List Ow → Prop
  | [], [] => True
  | a :: as, O :: os => (∃ o, H a = some o ∧ O.w S H o ∧ ¬ S a) ∧ OsOk S H as os
  | _, _ => False
def Vo.is0 (H0 : Hp) (S : Fz) (H : Hp) : Vo → V → Prop
  | .val P, v => P.p S H v
  | .own O, v => ∃ a o, v = .ref a ∧ H a = some o ∧ O.w S H o ∧ ¬ S a ∧ H0 a = none
def spM (A : Nat → Addr) (pre : List Ar → Cl → Prop) : Sp := fun vs H Q E => ∃ S as d, pre as d ∧ ArsOk S H vs as ∧ (ioAd vs as).Nodup ∧ (∀ a, S a → H a ≠ none) ∧ d.m ≠ .bad ∧
  (∀ r, d.m = .ok r → ∀ S' H' v, FrOk ⟨S, H, fun a => a ∈ ioAd vs as, fun _ => 0⟩ S' H' → OsOk S' H' (ioAd vs as) (d.os r) → (d.V r).is0 H S' H' v → Q v H') ∧
  (∀ e, d.m = .err e → ∀ S' H', FrOk ⟨S, H, fun a => a ∈ ioAd vs as, fun _ => 0⟩ S' H' → ErH A e E H')
def ctx0 (n : Nat) : List Ar → Ctx
  | [] => List.replicate n .any
  | .val P :: as => .val P :: ctx0 (n - 1) as
  | .io O :: as => .own true O :: ctx0 (n - 1) as
def IoE (Γ : Ctx) : Nat → List Ar → List Ow → Prop
  | _, [], [] => True
  | i, .val _ :: as, os => IoE Γ (i + 1) as os
  | i, .io _ :: as, O :: os => Γ[i]? = some (.own true O) ∧ IoE Γ (i + 1) as os
  | _, _, _ => False
def retD (d : Cl) (as : List Ar) : Dl d.β where
  nx := fun Γ' c' => ∃ r, c' = .ok r ∧ d.V r = .val yNon ∧ IoE Γ' 0 as (d.os r)
  rt := fun Γ' V c' => ∃ r, c' = .ok r ∧ V = d.V r ∧ IoE Γ' 0 as (d.os r)
section
variable {S S' : Fz} {H H' : Hp}
theorem ArsOk.len : ∀ {vs : List V} {as : List Ar}, ArsOk S H vs as → vs.length = as.length
  | [], [], _ => rfl
  | [], _ :: _, h => False.elim h
  | _ :: _, [], h => False.elim h
  | _ :: _, .val P :: _, h => congrArg Nat.succ (ArsOk.len h.2)
  | _ :: _, .io P :: _, h => congrArg Nat.succ (ArsOk.len h.2)
theorem ctx0_len : ∀ {as : List Ar} {n : Nat}, as.length ≤ n → (ctx0 n as).length = n
  | [], n, _ => by simp [ctx0]
  | .val P :: as, n, h => by
    simp only [List.length_cons] at h
    rw [ctx0, List.length_cons, ctx0_len (by omega)]; omega
  | .io P :: as, n, h => by
    simp only [List.length_cons] at h
    rw [ctx0, List.length_cons, ctx0_len (by omega)]; omega
theorem ctx0_val : ∀ {as : List Ar} {vs : List V} {n i : Nat} {P : Pv}, ArsOk S H vs as → (ctx0 n as)[i]? = some (.val P) → ∃ v, vs[i]? = some v ∧ P.p S H v
  | [], vs, n, i, P, h, e => by
    rw [ctx0, List.getElem?_replicate] at e
    split at e <;> cases e
  | .val P' :: as, v :: vs, n, 0, P, h, e => by cases e; exact ⟨v, rfl, h.1⟩
  | .val P' :: as, v :: vs, n, i + 1, P, h, e => ctx0_val (as := as) (vs := vs) (i := i) h.2 e
  | .io P' :: as, v :: vs, n, 0, P, h, e => by cases e
  | .io P' :: as, v :: vs, n, i + 1, P, h, e => ctx0_val (as := as) (vs := vs) (i := i) h.2 e
theorem ctx0_own : ∀ {as : List Ar} {vs : List V} {n i : Nat} {b : Bool} {O : Ow}, ArsOk S H vs as → (ctx0 n as)[i]? = some (.own b O) → b = true ∧ ∃ a o, vs[i]? = some (.ref a) ∧ H a = some o ∧ O.w S H o ∧ ¬ S a ∧ a ∈ ioAd vs as
  | [], vs, n, i, b, O, h, e => by
    rw [ctx0, List.getElem?_replicate] at e
    split at e <;> cases e
  | .val P' :: as, v :: vs, n, 0, b, O, h, e => by cases e
  | .val P' :: as, v :: vs, n, i + 1, b, O, h, e => by
    obtain ⟨h0, a, o, h1, h2, h3, h4, h5⟩ := ctx0_own (as := as) (vs := vs) (i := i) h.2 e
    exact ⟨h0, a, o, h1, h2, h3, h4, by cases v <;> exact h5⟩
  | .io O' :: as, v :: vs, n, 0, b, O, h, e => by
    cases e
    obtain ⟨⟨a, o, rfl, h1, h2, h3⟩, _⟩ := h
    exact ⟨rfl, a, o, rfl, h1, h2, h3, List.mem_cons_self ..⟩
  | .io O' :: as, v :: vs, n, i + 1, b, O, h, e => by
    obtain ⟨h0, a, o, h1, h2, h3, h4, h5⟩ := ctx0_own (as := as) (vs := vs) (i := i) h.2 e
    refine ⟨h0, a, o, h1, h2, h3, h4, ?_⟩
    cases v <;> first | exact List.mem_cons_of_mem _ h5 | exact h5
theorem ctx0_sep : ∀ {as : List Ar} {vs : List V} {n i j : Nat} {b b' : Bool} {O O' : Ow} {a : Addr}, ArsOk S H vs as → (ioAd vs as).Nodup → (ctx0 n as)[i]? = some (.own b O) → (ctx0 n as)[j]? = some (.own b' O') → vs[i]? = some (.ref a) → vs[j]? = some (.ref a) → i = j
  | [], vs, n, i, j, b, b', O, O', a, h, nd, e1, e2, e3, e4 => by
    rw [ctx0, List.getElem?_replicate] at e1
    split at e1 <;> cases e1
  | .val P :: as, v :: vs, n, 0, j, b, b', O, O', a, h, nd, e1, e2, e3, e4 => by cases e1
  | .val P :: as, v :: vs, n, i + 1, 0, b, b', O, O', a, h, nd, e1, e2, e3, e4 => by cases e2
  | .val P :: as, v :: vs, n, i + 1, j + 1, b, b', O, O', a, h, nd, e1, e2, e3, e4 => by
    rw [ctx0_sep (as := as) (vs := vs) (i := i) (j := j) h.2 (by cases v <;> exact nd) e1 e2 e3 e4]
  | .io P :: as, v :: vs, n, 0, 0, b, b', O, O', a, h, nd, e1, e2, e3, e4 => rfl
  | .io P :: as, v :: vs, n, 0, j + 1, b, b', O, O', a, h, nd, e1, e2, e3, e4 => by
    cases e3
    obtain ⟨_, a', o, h1, _, _, _, h5⟩ := ctx0_own (as := as) (vs := vs) (i := j) h.2 e2
    have e4 : vs[j]? = some (.ref a) := e4
    rw [e4] at h1; cases h1
    exact absurd h5 (List.nodup_cons.mp nd).1
  | .io P :: as, v :: vs, n, i + 1, 0, b, b', O, O', a, h, nd, e1, e2, e3, e4 => by
    cases e4
    obtain ⟨_, a', o, h1, _, _, _, h5⟩ := ctx0_own (as := as) (vs := vs) (i := i) h.2 e1
    have e3 : vs[i]? = some (.ref a) := e3
    rw [e3] at h1; cases h1
    exact absurd h5 (List.nodup_cons.mp nd).1
  | .io P :: as, v :: vs, n, i + 1, j + 1, b, b', O, O', a, h, nd, e1, e2, e3, e4 => by
    obtain ⟨⟨a', o, rfl, _⟩, h2⟩ := h
    rw [ctx0_sep (as := as) (vs := vs) (i := i) (j := j) h2 (List.nodup_cons.mp nd).2 e1 e2 e3 e4]
/-- the addresses by slot -/
def adOf (vs : List V) (i : Nat) : Addr := match vs[i]? with
  | some (.ref a) => a
  | _ => 0
theorem os_of {F : Fr} {Γ : Ctx} {σ : L2.St} {H0 : Hp} {S0 : Fz} (R : Rel F Γ S' σ H') : ∀ {as : List Ar} {vs : List V} {os : List Ow} {i : Nat}, ArsOk S0 H0 vs as → (∀ j, F.ad (i + j) = adOf vs j) → IoE Γ i as os → OsOk S' H' (ioAd vs as) os
  | [], [], [], _, _, _, _ => trivial
  | [], [], _ :: _, _, _, _, h => False.elim h
  | .val P :: as, v :: vs, os, i, h, ad, k => by
    have : ioAd (v :: vs) (.val P :: as) = ioAd vs as := by cases v <;> rfl
    rw [this]
    exact os_of R (as := as) (vs := vs) (i := i + 1) h.2 (fun j => by have := ad (j + 1); rw [show i + 1 + j = i + (j + 1) by omega, this]; rfl) k
  | .io O :: as, v :: vs, [], i, h, ad, k => False.elim k
  | .io O :: as, v :: vs, O' :: os, i, h, ad, k => by
    obtain ⟨⟨a, o, rfl, h1, h2, h3⟩, h4⟩ := h
    obtain ⟨a', o', e1, e2, e3, e4, e5, e6⟩ := R.own i true O' k.1
    have : a' = a := (e6 rfl).trans (ad 0)
    subst this
    exact ⟨⟨o', e2, e3, e4⟩, os_of R (as := as) (vs := vs) (i := i + 1) h4 (fun j => by have := ad (j + 1); rw [show i + 1 + j = i + (j + 1) by omega, this]; rfl) k.2⟩
end
theorem held_io {F : Fr} {Γ : Ctx} {σ : L2.St} {S' : Fz} {H' H0 : Hp} {S0 : Fz} {a : Addr} (R : Rel F Γ S' σ H') : ∀ {as : List Ar} {vs : List V} {os : List Ow} {i : Nat}, ArsOk S0 H0 vs as → (∀ j, F.ad (i + j) = adOf vs j) → IoE Γ i as os → a ∈ ioAd vs as → Held Γ σ a
  | [], [], _, _, _, _, _, m => by cases m
  | .val P :: as, v :: vs, os, i, h, ad, k, m => by
    have : ioAd (v :: vs) (.val P :: as) = ioAd vs as := by cases v <;> rfl
    rw [this] at m
    exact held_io R (as := as) (vs := vs) (i := i + 1) h.2 (fun j => by have := ad (j + 1); rw [show i + 1 + j = i + (j + 1) by omega, this]; rfl) k m
  | .io O :: as, v :: vs, [], i, h, ad, k, m => False.elim k
  | .io O :: as, v :: vs, O' :: os, i, h, ad, k, m => by
    obtain ⟨⟨b, o, rfl, h1, h2, h3⟩, h4⟩ := h
    rcases List.mem_cons.mp m with e | m
    · subst e
      obtain ⟨a', o', e1, e2, e3, e4, e5, e6⟩ := R.own i true O' k.1
      have : a' = a := (e6 rfl).trans (ad 0)
      subst this
      exact ⟨i, true, O', k.1, e1⟩
    · exact held_io R (as := as) (vs := vs) (i := i + 1) h4 (fun j => by have := ad (j + 1); rw [show i + 1 + j = i + (j + 1) by omega, this]; rfl) k.2 m
section
variable {A : Nat → Addr} {E : XK} {pre : List Ar → Cl → Prop} {vs : List V} {H : Hp} {Q : VK} {N : List Str} {t : TS}
theorem fn_core {S : Fz} {as : List Ar} {d : Cl} (T : Res d.β → Prop) {c : Res d.β} (ho : Ok0 A E ⟨S, H, fun a => a ∈ ioAd vs as, adOf vs⟩ T) (hT : ∀ r, T (.ok r) → d.m = .ok r) (hc : T c) (h2 : ArsOk S H vs as) (h3 : (ioAd vs as).Nodup) (h4 : ∀ a, S a → H a ≠ none)
    (h6 : ∀ r, d.m = .ok r → ∀ S' H' v, FrOk ⟨S, H, fun a => a ∈ ioAd vs as, fun _ => 0⟩ S' H' → OsOk S' H' (ioAd vs as) (d.os r) → (d.V r).is0 H S' H' v → Q v H') (hl : vs.length ≤ N.length) (hw : WS A (fun _ => E) (ctx0 N.length as) t c (retD d as)) :
    t { nx := fun _ H' => Q .non H', rt := Q } (start N vs) H := by
  have hl' : as.length ≤ N.length := h2.len ▸ hl
  have sv : ∀ (i : Nat) (v : V), vs[i]? = some v → (start N vs)[i]? = some (some v) := fun i v e => by
    rw [L2.start, List.getElem?_append_left (by rw [List.length_map]; exact (List.getElem?_eq_some_iff.mp e).1), List.getElem?_map, e]; rfl
  have sv' : ∀ (i : Nat) (a : Addr), (start N vs)[i]? = some (some (.ref a)) → vs[i]? = some (.ref a) := fun i a e => by
    rw [L2.start] at e
    by_cases z : i < vs.length
    · rw [List.getElem?_append_left (by rw [List.length_map]; exact z), List.getElem?_map] at e
      obtain ⟨x, h1, h2⟩ := Option.map_eq_some_iff.mp e
      cases h2; exact h1
    · rw [List.getElem?_append_right (by rw [List.length_map]; omega), List.getElem?_replicate] at e
      split at e <;> cases e
  have R0 : Rel ⟨S, H, fun a => a ∈ ioAd vs as, adOf vs⟩ (ctx0 N.length as) S (start N vs) H := by
    refine ⟨⟨fun _ _ h _ => h, fun _ h => .inl h, fun _ h => h, fun _ h => h, h4⟩, ?_, fun i P e => ?_, fun i b O e => ?_, fun i j b b' O O' a e1 e2 e3 e4 => ?_⟩
    · rw [ctx0_len hl', L2.start, List.length_append, List.length_map, List.length_replicate]; omega
    · obtain ⟨v, h1, h2⟩ := ctx0_val h2 e
      exact ⟨v, sv i v h1, h2⟩
    · obtain ⟨_, a, o, q1, q2, q3, q4, q5⟩ := ctx0_own h2 e
      exact ⟨a, o, sv i _ q1, q2, q3, q4, .inl q5, fun _ => by show a = adOf vs i; unfold adOf; rw [q1]⟩
    · exact ctx0_sep h2 h3 e1 e2 (sv' i a e3) (sv' j a e4)
  have fin : ∀ Γ' S' σ' H' r, Rel ⟨S, H, fun a => a ∈ ioAd vs as, adOf vs⟩ Γ' S' σ' H' → T (.ok r) → IoE Γ' 0 as (d.os r) → ∀ v, (d.V r).is0 H S' H' v → Q v H' := fun Γ' S' σ' H' r R hr hi v hv =>
    h6 r (hT r hr) S' H' v ⟨R.fr.kp, R.fr.fz, R.fr.le, R.fr.dm, R.fr.sd⟩ (os_of R h2 (fun j => by rw [Nat.zero_add]) hi) hv
  refine hw _ T S _ H _ (fun _ => ho) R0 hc ⟨?_, ?_, fun _ _ z => z.elim, fun _ _ z => z.elim⟩
  · rintro Γ' c' ⟨r, rfl, hv, hi⟩ S' σ' H' R l hr
    exact fin Γ' S' σ' H' r R hr hi _ (by rw [hv]; exact rfl)
  · rintro Γ' V c' ⟨r, rfl, rfl, hi⟩ S' σ' H' v R l hv hr
    refine fin Γ' S' σ' H' r R hr hi _ ?_
    cases e : d.V r with
    | val P => rw [e] at hv; exact hv
    | own O =>
      rw [e] at hv
      obtain ⟨a, o, q1, q2, q3, q4, q5, q6⟩ := hv
      refine ⟨a, o, q1, q2, q3, q4, q5.resolve_left fun z => q6 ?_⟩
      exact held_io R h2 (i := 0) (fun j => by rw [Nat.zero_add]) hi z
/-- the body does what the plain function does -/
theorem fn_run (h : spM A pre vs H Q E) (hl : ∀ as d, pre as d → as.length ≤ N.length) (hb : ∀ as d, pre as d → ∃ c, d.m = c ∧ WS A (fun _ => E) (ctx0 N.length as) t c (retD d as)) : t { nx := fun _ H' => Q .non H', rt := Q } (start N vs) H := by
  obtain ⟨S, as, d, h1, h2, h3, h4, h5, h6, h7⟩ := h
  obtain ⟨c, e, hw⟩ := hb as d h1
  exact fn_core (fun c => d.m = c) ⟨h5, fun e z S' H' f => h7 e z S' H' ⟨f.kp, f.fz, f.le, f.dm, f.sd⟩⟩ (fun r z => z) e h2 h3 h4 h6 (h2.len ▸ hl as d h1) hw
/-- .. a def that lets nothing out -/
theorem fn_run0 (h : spM A pre vs H Q E) (hl : ∀ as d, pre as d → as.length ≤ N.length) (hb : ∀ as d, pre as d → ∃ c, d.m = Res.noerr c ∧ WS A (fun _ => E) (ctx0 N.length as) t c (retD d as)) : t { nx := fun _ H' => Q .non H', rt := Q } (start N vs) H := by
  obtain ⟨S, as, d, h1, h2, h3, h4, h5, h6, h7⟩ := h
  obtain ⟨c, e, hw⟩ := hb as d h1
  refine fn_core (fun c => d.m = Res.noerr c) ⟨fun z => h5 z, fun e z S' H' f => absurd z h5⟩ (fun r z => z) e h2 h3 h4 h6 (h2.len ▸ hl as d h1) hw
end
/-! ### the call -/
def setO (Γ : Ctx) (i : Nat) (O : Ow) : Ctx := match Γ[i]? with
  | some (.own b _) => Γ.set i (.own b O)
  | _ => Γ
def updC : Ctx → List Ag → List Ow → Ctx
  | Γ, .val _ :: gs, os => updC Γ gs os
  | Γ, .io i :: gs, O :: os => updC (setO Γ i O) gs os
  | Γ, _, _ => Γ
def MatchA (Γ : Ctx) : List Ag → List Ar → Prop
  | [], [] => True
  | .val P :: gs, .val P' :: as => P = P' ∧ MatchA Γ gs as
  | .io i :: gs, .io O :: as => (∃ b, Γ[i]? = some (.own b O)) ∧ MatchA Γ gs as
  | _, _ => False
def ioIx : List Ag → List Nat
  | [] => []
  | .val _ :: gs => ioIx gs
  | .io i :: gs => i :: ioIx gs
section
variable {F : Fr} {Γ : Ctx} {S S' : Fz} {σ : L2.St} {H H' : Hp}
/-- the arguments, for the callee -/
theorem ars_of (R : Rel F Γ S σ H) : ∀ {vs : List V} {gs : List Ag} {as : List Ar}, AgsOk σ S H vs gs → MatchA Γ gs as → ArsOk S H vs as ∧ (ioAd vs as).map (fun a => some (some (V.ref a))) = (ioIx gs).map fun i => σ[i]?
  | [], [], [], _, _ => ⟨trivial, rfl⟩
  | [], [], _ :: _, _, h => False.elim h
  | [], _ :: _, _, h, _ => False.elim h
  | _ :: _, [], _, h, _ => False.elim h
  | v :: vs, .val P :: gs, [], _, h => False.elim h
  | v :: vs, .io i :: gs, [], _, h => False.elim h
  | v :: vs, .val P :: gs, .io _ :: as, _, h => False.elim h
  | v :: vs, .io i :: gs, .val _ :: as, _, h => False.elim h
  | v :: vs, .val P :: gs, .val P' :: as, h, m => by
    obtain ⟨q1, q2⟩ := ars_of R (vs := vs) (gs := gs) (as := as) h.2 m.2
    have : ioAd (v :: vs) (.val P' :: as) = ioAd vs as := by cases v <;> rfl
    rw [this]
    exact ⟨⟨m.1 ▸ h.1, q1⟩, q2⟩
  | v :: vs, .io i :: gs, .io O :: as, h, m => by
    obtain ⟨q1, q2⟩ := ars_of R (vs := vs) (gs := gs) (as := as) h.2 m.2
    obtain ⟨b, hb⟩ := m.1
    obtain ⟨a, o, e1, e2, e3, e4, _⟩ := R.own i b O hb
    have e : σ[i]? = some (some v) := h.1
    rw [e] at e1; cases e1
    refine ⟨⟨⟨a, o, rfl, e2, e3, e4⟩, q1⟩, ?_⟩
    show some (some (V.ref a)) :: _ = σ[i]? :: _
    rw [e]; exact congrArg _ q2
theorem setO_at {i j : Nat} {O : Ow} {x : Slt} (h : (setO Γ i O)[j]? = some x) : (Γ[j]? = some x ∧ (j = i → ∀ b O', x ≠ .own b O')) ∨ (j = i ∧ ∃ b O0, x = .own b O ∧ Γ[i]? = some (.own b O0)) := by
  unfold setO at h
  split at h
  · next b O0 e =>
    rcases set_at h with ⟨rfl, rfl⟩ | ⟨n, h⟩
    · exact .inr ⟨rfl, b, O0, rfl, e⟩
    · exact .inl ⟨h, fun z => absurd z n⟩
  · next hn =>
    refine .inl ⟨h, fun z b O' q => ?_⟩
    subst z; subst q
    exact hn b O' h
theorem setO_len {i : Nat} {O : Ow} : (setO Γ i O).length = Γ.length := by
  unfold setO
  split
  · rw [List.length_set]
  · rfl
theorem updC_at : ∀ {gs : List Ag} {Γ : Ctx} {os : List Ow} {j : Nat} {x : Slt}, (updC Γ gs os)[j]? = some x → (Γ[j]? = some x ∧ (∀ b O', x = .own b O' → os.length = (ioIx gs).length → j ∉ ioIx gs)) ∨ (∃ b O0 O, x = .own b O ∧ Γ[j]? = some (.own b O0) ∧ ∃ k : Nat, (ioIx gs)[k]? = some j ∧ os[k]? = some O)
  | [], Γ, os, j, x, h => .inl ⟨h, fun _ _ _ _ => List.not_mem_nil⟩
  | .val _ :: gs, Γ, os, j, x, h => updC_at (gs := gs) h
  | .io i :: gs, Γ, [], j, x, h => .inl ⟨h, fun _ _ _ z => by simp [ioIx] at z⟩
  | .io i :: gs, Γ, O :: os, j, x, h => by
    rcases updC_at (gs := gs) (Γ := setO Γ i O) h with ⟨h1, h2⟩ | ⟨b, O0, O', rfl, h2, k, h3, h4⟩
    · rcases setO_at h1 with ⟨h3, h4⟩ | ⟨rfl, b, O0, rfl, h3⟩
      · refine .inl ⟨h3, fun b O' e z => ?_⟩
        simp only [ioIx, List.length_cons, Nat.succ.injEq] at z
        simp only [ioIx, List.mem_cons, not_or]
        exact ⟨fun q => h4 q b O' e, h2 b O' e (by omega)⟩
      · exact .inr ⟨b, O0, O, rfl, h3, 0, rfl, rfl⟩
    · rcases setO_at h2 with ⟨h5, _⟩ | ⟨rfl, b', O1, e, h5⟩
      · exact .inr ⟨b, O0, O', rfl, h5, k + 1, h3, h4⟩
      · cases e; exact .inr ⟨b, O1, O', rfl, h5, k + 1, h3, h4⟩
theorem updC_len : ∀ {gs : List Ag} {Γ : Ctx} {os : List Ow}, (updC Γ gs os).length = Γ.length
  | [], _, _ => rfl
  | .val _ :: gs, Γ, os => updC_len (gs := gs)
  | .io i :: gs, Γ, [] => rfl
  | .io i :: gs, Γ, O :: os => by rw [updC, updC_len (gs := gs), setO_len]
theorem osOk_at : ∀ {as : List Addr} {os : List Ow} {k : Nat} {O : Ow}, OsOk S H as os → os[k]? = some O → ∃ a o, as[k]? = some a ∧ H a = some o ∧ O.w S H o ∧ ¬ S a
  | [], [], k, O, h, e => by simp at e
  | [], _ :: _, _, _, h, _ => False.elim h
  | _ :: _, [], _, _, h, _ => False.elim h
  | a :: as, O' :: os, 0, O, h, e => by cases e; obtain ⟨o, h1⟩ := h.1; exact ⟨a, o, rfl, h1⟩
  | a :: as, O' :: os, k + 1, O, h, e => osOk_at (as := as) (os := os) (k := k) h.2 e
theorem osOk_len : ∀ {as : List Addr} {os : List Ow}, OsOk S H as os → as.length = os.length
  | [], [], h => rfl
  | [], _ :: _, h => False.elim h
  | _ :: _, [], h => False.elim h
  | a :: as, O' :: os, h => congrArg Nat.succ (osOk_len h.2)
theorem Rel.called (R : Rel F Γ S σ H) {gs : List Ag} {os : List Ow} {ads : List Addr} (hio : ads.map (fun a => some (some (V.ref a))) = (ioIx gs).map fun i => σ[i]?) (hown : ∀ i ∈ ioIx gs, ∃ b O, Γ[i]? = some (.own b O)) {ad : Nat → Addr} (f : FrOk ⟨S, H, fun a => a ∈ ads, ad⟩ S' H') (ho : OsOk S' H' ads os) :
    Le S H S' H' ∧ Rel F (updC Γ gs os) S' σ H' := by
  have hads : ∀ (k : Nat) (i : Nat), (ioIx gs)[k]? = some i → ∃ a, ads[k]? = some a ∧ σ[i]? = some (some (.ref a)) := fun k i e => by
    have q := congrArg (fun l => l[k]?) hio
    simp only [List.getElem?_map, e, Option.map_some] at q
    obtain ⟨a, h1, h2⟩ := Option.map_eq_some_iff.mp q
    exact ⟨a, h1, h2.symm⟩
  have hads' : ∀ a ∈ ads, ∃ i ∈ ioIx gs, σ[i]? = some (some (.ref a)) := fun a h => by
    obtain ⟨k, hk⟩ := List.mem_iff_getElem?.mp h
    have q := congrArg (fun l => l[k]?) hio
    simp only [List.getElem?_map, hk, Option.map_some] at q
    obtain ⟨i, h1, h2⟩ := Option.map_eq_some_iff.mp q.symm
    exact ⟨i, List.mem_iff_getElem?.mpr ⟨k, h1⟩, h2⟩
  have held : ∀ a ∈ ads, Held Γ σ a := fun a h => by
    obtain ⟨i, h1, h2⟩ := hads' a h
    obtain ⟨b, O, h3⟩ := hown i h1
    exact ⟨i, b, O, h3, h2⟩
  have hlen : os.length = (ioIx gs).length := by
    rw [← osOk_len ho]
    have := congrArg List.length hio
    simpa using this
  have l : Le S H S' H' := .ex f.le fun a o h k => f.kp a o h fun z => by
    obtain ⟨i, b, O, h1, h2⟩ := held a z
    obtain ⟨a', o', e1, e2, e3, e4, _⟩ := R.own i b O h1
    rw [h2] at e1; cases e1
    rw [h] at e2; cases e2
    rcases k with k | k
    · exact e4 k
    · rw [O.nt e3] at k; cases k
  refine ⟨l, ⟨R.fr.comp (S' := S') (H' := H') (I := fun a => a ∈ ads) ⟨f.kp, f.fz, f.le, f.dm, f.sd⟩ fun a h => R.hI a (held a h), by rw [updC_len]; exact R.len, fun i P e => ?_, fun i b O e => ?_, fun i j b b' O O' a e1 e2 => ?_⟩⟩
  · rcases updC_at e with ⟨h1, _⟩ | ⟨b, O0, O, h, _⟩
    · obtain ⟨v, h2, h3⟩ := R.val i P h1
      exact ⟨v, h2, P.up l h3⟩
    · cases h
  · rcases updC_at e with ⟨h1, h2⟩ | ⟨b', O0, O', h, h1, k, h2, h3⟩
    · obtain ⟨a, o, e1, e2, e3, e4, e5, e6⟩ := R.own i b O h1
      have na : a ∉ ads := fun z => by
        obtain ⟨j, h3, h4⟩ := hads' a z
        obtain ⟨b2, O2, h5⟩ := hown j h3
        have := R.sep i j b b2 O O2 a h1 h5 e1 h4
        subst this
        exact h2 b O rfl hlen h3
      exact ⟨a, o, e1, f.kp a o e2 na, O.up l e3, fun z => by
        rcases f.fz a z with z | z | z
        · exact e4 z
        · have z : H a = none := z
          rw [e2] at z; cases z
        · exact na z, e5, e6⟩
    · cases h
      obtain ⟨a, o, e1, e2, e3, e4, e5, e6⟩ := R.own i b O0 h1
      obtain ⟨a', q1, q2⟩ := hads k i h2
      rw [e1] at q2; cases q2
      obtain ⟨a2, o2, w1, w2, w3, w4⟩ := osOk_at ho h3
      rw [q1] at w1; cases w1
      exact ⟨a, o2, e1, w2, w3, w4, e5, e6⟩
  · have q : ∀ (i : Nat) (b : Bool) (O : Ow), (updC Γ gs os)[i]? = some (.own b O) → ∃ b O, Γ[i]? = some (Slt.own b O) := fun i b O e => by
      rcases updC_at e with ⟨h1, h2⟩ | ⟨b', O0, O', h, h1, _⟩
      · exact ⟨_, _, h1⟩
      · exact ⟨_, _, h1⟩
    obtain ⟨_, _, q1⟩ := q i b O e1
    obtain ⟨_, _, q2⟩ := q j b' O' e2
    exact R.sep i j _ _ _ _ a q1 q2
end
theorem match_own {Γ : Ctx} : ∀ {gs : List Ag} {as : List Ar}, MatchA Γ gs as → ∀ i ∈ ioIx gs, ∃ b O, Γ[i]? = some (.own b O)
  | [], [], _, i, h => absurd h List.not_mem_nil
  | [], _ :: _, h, _, _ => False.elim h
  | .val P :: gs, [], h, _, _ => False.elim h
  | .io P :: gs, [], h, _, _ => False.elim h
  | .val P :: gs, .io _ :: as, h, _, _ => False.elim h
  | .io P :: gs, .val _ :: as, h, _, _ => False.elim h
  | .val P :: gs, .val _ :: as, h, i, m => match_own (gs := gs) h.2 i m
  | .io j :: gs, .io O :: as, h, i, m => by
    rcases List.mem_cons.mp m with e | m
    · obtain ⟨b, hb⟩ := h.1
      subst e
      exact ⟨b, O, hb⟩
    · exact match_own (gs := gs) h.2 i m
section
variable {ρ : Type} {A : Nat → Addr} {E E' : L2.St → XK} {K : PySem.W.Frag} {Γ : Ctx} {c : Res ρ} {κ : Ctx → Vo → Res ρ → Prop} {pre : List Ar → Cl → Prop} {gs : List Ag} {tr : TA}
/-- how many arguments -/
theorem spM_len {vs : List V} {H : Hp} {Q : VK} {E : XK} {n : Nat} (h : spM A pre vs H Q E) (hn : ∀ as d, pre as d → as.length = n) : vs.length = n := by
  obtain ⟨S, as, d, h1, h2, _⟩ := h
  rw [h2.len, hn as d h1]
/-- E': what the rule of the call wants of an exception: the def's own, or nothing at all where the callee lets nothing out -/
theorem rc_call (as : List Ar) (d : Cl) (k : d.β → Res ρ) (hp : pre as d) (hm : MatchA Γ gs as) (hn : (ioIx gs).Nodup) (hc : c = d.m.bind k) (he : E' = E ∨ ∀ e, d.m ≠ .err e) (h : ∀ r, d.m = .ok r → κ (updC Γ gs (d.os r)) (d.V r) (k r)) : RC A E (fun σ vs H Q => spM A pre vs H Q (E' σ)) gs Γ c κ := fun F T S σ H vs Q O R hT hg kk => by
  subst hc
  obtain ⟨h1, h2⟩ := ars_of R hg hm
  have h3 : (ioAd vs as).Nodup := by
    have inj : ∀ i ∈ ioIx gs, ∀ j ∈ ioIx gs, σ[i]? = σ[j]? → i = j := fun i hi j hj e => by
      obtain ⟨b, O1, q1⟩ := match_own hm i hi
      obtain ⟨b', O2, q2⟩ := match_own hm j hj
      obtain ⟨a, o, e1, _⟩ := R.own i b O1 q1
      exact R.sep i j b b' O1 O2 a q1 q2 e1 (e ▸ e1)
    have nd : ((ioIx gs).map fun i => σ[i]?).Nodup := by
      refine List.Pairwise.map _ (R := fun i j => i ∈ ioIx gs ∧ j ∈ ioIx gs ∧ i ≠ j) (fun i j q e => q.2.2 (inj i q.1 j q.2.1 e)) ?_
      exact hn.imp_of_mem fun hi hj n => ⟨hi, hj, n⟩
    rw [← h2] at nd
    exact List.Pairwise.of_map (S := (· ≠ ·)) _ (fun a b q e => q (by rw [e])) nd
  have nb : d.m ≠ .bad := fun z => by rw [z] at hT; exact O.nb hT
  refine ⟨S, as, d, hp, h1, h3, R.fr.sd, nb, fun r hr S' H' v f ho hv => ?_, fun e z S' H' f => ?_⟩
  · obtain ⟨l, R'⟩ := R.called h2 (match_own hm) f ho
    refine kk _ _ _ (h r hr) S' H' v R' l ?_ (by rw [hr] at hT; exact hT)
    cases ev : d.V r with
    | val P => rw [ev] at hv; exact hv
    | own O' =>
      rw [ev] at hv
      obtain ⟨a, o, q1, q2, q3, q4, q5⟩ := hv
      refine ⟨a, o, q1, q2, q3, q4, .inr (R.fr.fresh q5), fun ⟨i, b, O2, w1, w2⟩ => ?_⟩
      have : ∃ b O, Γ[i]? = some (Slt.own b O) := by
        rcases updC_at w1 with ⟨w, _⟩ | ⟨b', O0, O3, w, w', _⟩
        · exact ⟨_, _, w⟩
        · exact ⟨_, _, w'⟩
      obtain ⟨b3, O3, w3⟩ := this
      obtain ⟨a', o', e1, e2, _⟩ := R.own i b3 O3 w3
      rw [w2] at e1; cases e1
      rw [q5] at e2; cases e2
  · rcases he with rfl | he
    · exact O.er e (by rw [z] at hT; exact hT) S' H' (R.fr.comp (I := fun a => a ∈ ioAd vs as) ⟨f.kp, f.fz, f.le, f.dm, f.sd⟩ fun a h => by
        obtain ⟨k, hk⟩ := List.mem_iff_getElem?.mp h
        have q := congrArg (fun l => l[k]?) h2
        simp only [List.getElem?_map, hk, Option.map_some] at q
        obtain ⟨i, w1, w2⟩ := Option.map_eq_some_iff.mp q.symm
        obtain ⟨b, O, w3⟩ := match_own hm i (List.mem_iff_getElem?.mpr ⟨k, w1⟩)
        exact R.hI a ⟨i, b, O, w3, w2⟩)
    · exact absurd z (he e)
theorem noerr_ne {α : Type} {m : Res α} {e : Er} (h : m.noerr = .err e) : False := by cases m <;> cases h
/-- .. of a def that is a plain function -/
theorem rc_callP (as : List Ar) (d : Cl) (v : d.β) (hp : pre as d) (hm : MatchA Γ gs as) (hn : (ioIx gs).Nodup) (hv : d.m = .ok v) (h : κ (updC Γ gs (d.os v)) (d.V v) c) : RC A E (fun σ vs H Q => spM A pre vs H Q (E' σ)) gs Γ c κ :=
  rc_call as d (fun _ => c) hp hm hn (by rw [hv]; rfl) (.inr fun e z => by rw [hv] at z; cases z) fun r hr => by rw [hv] at hr; cases hr; exact h
theorem wx_call {E1 : XK} (h : WA A E Γ tr c fun Γ1 gs c1 => RC A E (fun _ vs H Q => spM A pre vs H Q E1) gs Γ1 c1 κ) : WX A E Γ (tCall (spM A pre) [] E1 tr) c κ := fun F T S σ H Q O R hc k => by
  refine h F T S σ H _ O R hc fun Γ1 gs c1 h1 S1 H1 xs R1 l1 p1 hc1 => ?_
  show spM A pre (xs ++ []) H1 Q E1
  rw [List.append_nil]
  exact h1 F T S1 σ H1 xs Q O R1 hc1 p1 fun Γ' V c' q S' H' v R' l => k Γ' V c' q S' H' v R' (l1.trans l)
end
end Mi
namespace Mi
open PySem PySem.Spec PyProof.Rows L2
open Sl (isTup sz szl slt)
/-! ### plain operations -/
def pidx {α : Type} (xs : List α) (i : Int) : Res α := match atI xs i with
  | some x => .ok x
  | none => .bad
def pcut {α : Type} (xs : List α) (lo hi : Option Int) : List α := (xs.drop (HT.sIx xs.length 0 lo)).take (HT.sIx xs.length xs.length hi - HT.sIx xs.length 0 lo)
def pmod (x y : Int) : Res Int := if 0 < y then .ok (x % y) else .bad
def pdiv (x y : Int) : Res Int := if 0 < y ∧ y < 1073741824 then .ok (x / y) else .bad
def pmul (x y : Int) : Res Int := if (-(2 ^ 64) < x ∧ x < 2 ^ 64) ∨ (-(2 ^ 64) < y ∧ y < 2 ^ 64) then .ok (x * y) else .bad
def pcat {α : Type} (xs ys : List α) : Res (List α) := if xs.length + ys.length ≤ 100000 then .ok (xs ++ ys) else .bad
/-- at a place that is told later: only the first ones, alike in kind -/
def psel {α : Type} (xs : List α) (i : Int) : Res α := if 0 ≤ i then match xs[i.toNat]? with
  | some x => .ok x
  | none => .bad else .bad
def pset {α : Type} (xs : List α) (i : Int) (y : α) : Res (List α) := match ixN xs.length i with
  | some j => .ok (xs.set j y)
  | none => .bad
def psnoc {α : Type} (xs : List α) (y : α) : Res (List α) := if xs.length < 100000 then .ok (xs ++ [y]) else .bad
def pmaxI (xs : List Int) : Res Int := match xs with
  | [] => .bad
  | x :: r => .ok (r.foldl max x)
def pminI (xs : List Int) : Res Int := match xs with
  | [] => .bad
  | x :: r => .ok (r.foldl min x)
def pminD (xs : List Int) (d : Int) : Int := match xs with
  | [] => d
  | x :: r => r.foldl min x
/-! dicts -/
def dlook {κ α : Type} [DecidableEq κ] (d : List (κ × α)) (k : κ) : Option α := (d.find? fun kv => decide (kv.1 = k)).map (·.2)
def dput {κ α : Type} [DecidableEq κ] (d : List (κ × α)) (k : κ) (v : α) : List (κ × α) :=
  if (d.any fun kv => decide (kv.1 = k)) = true then d.map (fun kv => if kv.1 = k then (kv.1, v) else kv) else d ++ [(k, v)]
def pdget {κ α : Type} [DecidableEq κ] (d : List (κ × α)) (k : κ) : Res α := match dlook d k with
  | some x => .ok x
  | none => .bad
def pdput {κ α : Type} [DecidableEq κ] (d : List (κ × α)) (k : κ) (v : α) : Res (List (κ × α)) := if d.length < 100000 then .ok (dput d k v) else .bad
def dhas {κ α : Type} [DecidableEq κ] (d : List (κ × α)) (k : κ) : Bool := (dlook d k).isSome
def dgetD {κ α : Type} [DecidableEq κ] (d : List (κ × α)) (k : κ) (x : α) : α := (dlook d k).getD x
def dkeys {κ α : Type} (d : List (κ × α)) : List κ := d.map (·.1)
/-! sorted texts -/
def sortS (xs : List Str) : List Str := xs.mergeSort fun a b => !decide (slt b a)
def psortS (xs : List Str) : Res (List Str) := if xs.length < 64 then .ok (sortS xs) else .bad
theorem perm_sorted_eq {α : Type} {r : α → α → Prop} (anti : ∀ a b, r a b → r b a → a = b) : ∀ {l m : List α}, l.Perm m → l.Pairwise r → m.Pairwise r → l = m
  | [], m, p, _, _ => (List.nil_perm.mp p).symm
  | x :: l, [], p, _, _ => by have := p.length_eq; simp at this
  | x :: l, y :: m, p, h1, h2 => by
    have a1 := List.pairwise_cons.mp h1
    have a2 := List.pairwise_cons.mp h2
    have e : x = y := by
      have m1 : x ∈ y :: m := p.mem_iff.mp (List.mem_cons_self ..)
      have m2 : y ∈ x :: l := p.mem_iff.mpr (List.mem_cons_self ..)
      rcases List.mem_cons.mp m1 with q | q
      · exact q
      · rcases List.mem_cons.mp m2 with w | w
        · exact w.symm
        · exact anti x y (a1.1 y w) (a2.1 x q)
    subst e
    rw [perm_sorted_eq anti (List.perm_cons x |>.mp p) a1.2 a2.2]
theorem sortS_perm (xs : List Str) : (sortS xs).Perm xs := List.mergeSort_perm ..
theorem sortS_pw (xs : List Str) : (sortS xs).Pairwise fun a b => ¬ slt b a := by
  have := List.pairwise_mergeSort (le := fun a b : Str => !decide (slt b a)) (fun a b c h1 h2 => ?_) (fun a b => ?_) xs
  · exact this.imp fun h => by simpa using h
  · simp only [Bool.not_eq_true', decide_eq_false_iff_not] at h1 h2 ⊢
    intro h
    rcases Sl.slt_tri a b with q | q | q
    · exact h2 (Sl.slt_trans h q)
    · subst q; exact h2 h
    · exact h1 q
  · simp only [Bool.or_eq_true, Bool.not_eq_true', decide_eq_false_iff_not]
    by_cases h : slt b a
    · exact .inr (Sl.slt_asymm h)
    · exact .inl h
theorem sortS_of {xs ys : List Str} (p : ys.Perm xs) (s : sortedS ys = true) : ys = sortS xs := by
  refine perm_sorted_eq (r := fun a b => ¬ slt b a) (fun a b h1 h2 => ?_) (p.trans (sortS_perm xs).symm) ?_ (sortS_pw xs)
  · rcases Sl.slt_tri a b with q | q | q
    · exact absurd q h2
    · exact q
    · exact absurd q h1
  · cases ys with
    | nil => exact List.Pairwise.nil
    | cons x r => exact Sl.rising_pw x r s
/-! ### dicts: what they hold -/
class DKey (κ : Type) where
  ky : κ → Key
  inj : ∀ a b, ky a = ky b → a = b
instance : DKey Str := ⟨Sum.inr, fun _ _ h => by injection h⟩
instance : DKey Int := ⟨Sum.inl, fun _ _ h => by injection h⟩
def KpOk (S : Fz) (H : Hp) : List (Key × V) → List (Key × Pv) → Prop
  | [], [] => True
  | kv :: kvs, kp :: kps => (kv.1 = kp.1 ∧ kp.2.p S H kv.2) ∧ KpOk S H kvs kps
  | _, _ => False
section
variable {S S' : Fz} {H H' : Hp}
theorem KpOk.up (l : Le S H S' H') : ∀ {vs : List (Key × V)} {ps : List (Key × Pv)}, KpOk S H vs ps → KpOk S' H' vs ps
  | [], [], _ => trivial
  | [], _ :: _, h => False.elim h
  | _ :: _, [], h => False.elim h
  | _ :: _, P :: _, h => ⟨⟨h.1.1, P.2.up l h.1.2⟩, KpOk.up l h.2⟩
theorem KpOk.len : ∀ {vs : List (Key × V)} {ps : List (Key × Pv)}, KpOk S H vs ps → vs.length = ps.length
  | [], [], _ => rfl
  | [], _ :: _, h => False.elim h
  | _ :: _, [], h => False.elim h
  | _ :: _, P :: _, h => congrArg Nat.succ (KpOk.len h.2)
theorem KpOk.keys : ∀ {vs : List (Key × V)} {ps : List (Key × Pv)}, KpOk S H vs ps → vs.map (·.1) = ps.map (·.1)
  | [], [], _ => rfl
  | [], _ :: _, h => False.elim h
  | _ :: _, [], h => False.elim h
  | v :: vs, P :: ps, h => by rw [List.map_cons, List.map_cons, h.1.1, KpOk.keys h.2]
def kpl {κ α : Type} [DKey κ] (t : α → Pv) (d : List (κ × α)) : List (Key × Pv) := d.map fun kv => (DKey.ky kv.1, t kv.2)
theorem KpOk.look {κ α : Type} [DKey κ] [DecidableEq κ] {t : α → Pv} {k : κ} : ∀ {kvs : List (Key × V)} {d : List (κ × α)}, KpOk S H kvs (kpl t d) → (∀ x, dlook d k = some x → ∃ v, valV kvs (DKey.ky k) = some v ∧ (t x).p S H v) ∧ (dlook d k = none → valV kvs (DKey.ky k) = none)
  | [], [], _ => ⟨fun x h => by simp [dlook] at h, fun _ => rfl⟩
  | [], _ :: _, h => False.elim h
  | _ :: _, [], h => False.elim h
  | kv :: kvs, (k', x') :: d, h => by
    obtain ⟨i1, i2⟩ := KpOk.look (k := k) (kvs := kvs) (d := d) h.2
    by_cases e : k' = k
    · have e' : kv.1 = DKey.ky k := by rw [h.1.1]; exact congrArg _ e
      have e1 : dlook ((k', x') :: d) k = some x' := by simp [dlook, List.find?_cons, e]
      rw [e1, valV_pos e']
      exact ⟨fun x hx => by cases hx; exact ⟨_, rfl, h.1.2⟩, fun z => by cases z⟩
    · have e' : ¬ kv.1 = DKey.ky k := by rw [h.1.1]; exact fun z => e (DKey.inj _ _ z)
      have e1 : dlook ((k', x') :: d) k = dlook d k := by simp [dlook, List.find?_cons, e]
      rw [e1, valV_neg e']
      exact ⟨i1, i2⟩
theorem KpOk.put {κ α : Type} [DKey κ] [DecidableEq κ] {t : α → Pv} {k : κ} {y : α} {v : V} {kvs : List (Key × V)} {d : List (κ × α)} (h : KpOk S H kvs (kpl t d)) (hv : (t y).p S H v) : KpOk S H (putK kvs (DKey.ky k) v) (kpl t (dput d k y)) := by
  have any : ∀ {kvs : List (Key × V)} {d : List (κ × α)}, KpOk S H kvs (kpl t d) → (kvs.any fun kv => decide (kv.1 = DKey.ky k)) = d.any fun kv => decide (kv.1 = k) := by
    intro kvs d h
    induction kvs generalizing d with
    | nil => cases d with
      | nil => rfl
      | cons p d => exact False.elim h
    | cons kv kvs ih => cases d with
      | nil => exact False.elim h
      | cons p d =>
        rw [List.any_cons, List.any_cons, ih h.2]
        congr 1
        have : kv.1 = DKey.ky p.1 := h.1.1
        rw [this]
        exact decide_eq_decide.mpr ⟨fun z => DKey.inj _ _ z, fun z => by rw [z]⟩
  unfold putK dput
  rw [any h]
  by_cases z : (d.any fun kv => decide (kv.1 = k)) = true
  · rw [if_pos z, if_pos z]
    clear z any
    induction kvs generalizing d with
    | nil => cases d with
      | nil => trivial
      | cons p d => exact False.elim h
    | cons kv kvs ih => cases d with
      | nil => exact False.elim h
      | cons p d =>
        have e : kv.1 = DKey.ky p.1 := h.1.1
        refine ⟨?_, ih h.2⟩
        by_cases q : p.1 = k
        · have q' : kv.1 = DKey.ky k := by rw [e, q]
          dsimp only
          rw [if_pos q', if_pos q]
          exact ⟨h.1.1, hv⟩
        · have q' : ¬ kv.1 = DKey.ky k := by rw [e]; exact fun z => q (DKey.inj _ _ z)
          dsimp only
          rw [if_neg q', if_neg q]
          exact h.1
  · rw [if_neg z, if_neg z]
    clear z any
    induction kvs generalizing d with
    | nil => cases d with
      | nil => exact ⟨⟨rfl, hv⟩, trivial⟩
      | cons p d => exact False.elim h
    | cons kv kvs ih => cases d with
      | nil => exact False.elim h
      | cons p d => exact ⟨h.1, ih h.2⟩
end
/-- a dict that stands -/
def pDct (kps : List (Key × Pv)) : Pv := ⟨fun S H v => ∃ a kvs, v = .ref a ∧ S a ∧ Rd H a (.dK kvs) ∧ KpOk S H kvs kps ∧ kvs.length ≤ sizeLine, fun l ⟨a, kvs, h1, h2, h3, h4, h5⟩ => ⟨a, kvs, h1, l.fz a h2, l.rd (fun _ _ e => nomatch e) (fun _ _ _ e => nomatch e) h3 (.inl h2), h4.up l, h5⟩⟩
def oDct (kps : List (Key × Pv)) : Ow where
  w S H o := ∃ kvs, o = .dK kvs ∧ KpOk S H kvs kps ∧ kvs.length ≤ sizeLine
  up l h := by obtain ⟨kvs, h1, h2, h3⟩ := h; exact ⟨kvs, h1, h2.up l, h3⟩
  nt h := by obtain ⟨kvs, rfl, _⟩ := h; rfl
  pv := pDct kps
  to hs he h := by obtain ⟨kvs, rfl, h2, h3⟩ := h; exact ⟨_, kvs, rfl, hs, .inl he, h2, h3⟩
abbrev yDct {κ α : Type} [DKey κ] (t : α → Pv) (d : List (κ × α)) : Pv := pDct (kpl t d)
abbrev wDct {κ α : Type} [DKey κ] (t : α → Pv) (d : List (κ × α)) : Ow := oDct (kpl t d)
abbrev wLst (K : PySem.W.Frag) {α : Type} (t : α → Pv) (xs : List α) : Ow := oLst K (xs.map t)
/-- keys as values -/
class KeyV (κ : Type) (t : κ → Pv) extends DKey κ where
  is : ∀ k S H v, (t k).p S H v → v = kV (ky k)
instance : KeyV Str yStr := { is := fun k S H v h => h }
instance : KeyV Int yInt := { is := fun k S H v h => h }
/-! ### data: what == tells apart -/
class Dat (K : PySem.W.Frag) {α : Type} (t : α → Pv) where
  enc : α → PyData
  dp : ∀ x S H v, (t x).p S H v → Dp K H v (enc x)
  pl : ∀ x, (enc x).plain = true
  n : Nat
  dep : ∀ x S H v, (t x).p S H v → (enc x).depth ≤ n
  eq : ∀ x y, PyData.eqv (enc x) (enc y) = true ↔ x = y
section
variable {K : PySem.W.Frag} {α β γ : Type} {t : α → Pv} {u : β → Pv} {w : γ → Pv}
instance : Dat K yInt := ⟨.int, fun x S H v h => h ▸ .int x, fun _ => rfl, 1, fun _ _ _ _ _ => by simp [PyData.depth], fun x y => by simp [PyData.eqv]⟩
instance : Dat K yStr := ⟨.str, fun x S H v h => h ▸ .str x, fun _ => rfl, 1, fun _ _ _ _ _ => by simp [PyData.depth], fun x y => by simp [PyData.eqv]⟩
instance : Dat K yBl := ⟨.bool, fun x S H v h => h ▸ .bl x, fun _ => rfl, 1, fun _ _ _ _ _ => by simp [PyData.depth], fun x y => by simp [PyData.eqv]⟩
theorem dps_of {S : Fz} {H : Hp} [D : Dat K t] : ∀ {vs : List V} {xs : List α}, PsOk S H vs (xs.map t) → DpAll K H vs (xs.map D.enc)
  | [], [], _ => .nil
  | [], _ :: _, h => False.elim h
  | _ :: _, [], h => False.elim h
  | v :: vs, x :: xs, h => .cons (D.dp x S H v h.1) (dps_of h.2)
theorem pls_of [D : Dat K t] : ∀ xs : List α, PyData.plainAll (xs.map D.enc) = true
  | [] => rfl
  | x :: xs => by rw [List.map_cons, PyData.plainAll, D.pl x, pls_of xs]; rfl
theorem deps_of [D : Dat K t] {S : Fz} {H : Hp} : ∀ {vs : List V} {xs : List α}, PsOk S H vs (xs.map t) → PyData.depthAll (xs.map D.enc) ≤ D.n
  | [], [], _ => by simp [PyData.depthAll]
  | [], _ :: _, h => False.elim h
  | _ :: _, [], h => False.elim h
  | v :: vs, x :: xs, h => by rw [List.map_cons, PyData.depthAll]; have := D.dep x S H v h.1; have := deps_of h.2; omega
theorem eqs_of [D : Dat K t] : ∀ xs ys : List α, PyData.eqvAll (xs.map D.enc) (ys.map D.enc) = true ↔ xs = ys
  | [], [] => by simp [PyData.eqvAll]
  | [], _ :: _ => by simp [PyData.eqvAll]
  | _ :: _, [] => by simp [PyData.eqvAll]
  | x :: xs, y :: ys => by
    rw [List.map_cons, List.map_cons, PyData.eqvAll, Bool.and_eq_true, D.eq x y, eqs_of xs ys]; simp
instance [D : Dat K t] : Dat K (fun xs : List α => yTup K t xs) := ⟨fun xs => .tuple (xs.map D.enc), fun xs S H v ⟨a, vs, e, h1, h2, _⟩ => e ▸ .tup h1 (dps_of h2), fun xs => by rw [PyData.plain]; exact pls_of xs, D.n + 1, fun xs S H v ⟨a, vs, e, h1, h2, _⟩ => by rw [PyData.depth]; have := deps_of (K := K) h2; omega, fun xs ys => by rw [PyData.eqv]; exact eqs_of xs ys⟩
instance [D : Dat K t] : Dat K (fun xs : List α => yLst K t xs) := ⟨fun xs => .list (xs.map D.enc), fun xs S H v ⟨a, vs, e, h1, h2, _⟩ => e ▸ .lst h1.1 (dps_of h2), fun xs => by rw [PyData.plain]; exact pls_of xs, D.n + 1, fun xs S H v ⟨a, vs, e, h1, h2, _⟩ => by rw [PyData.depth]; have := deps_of (K := K) h2; omega, fun xs ys => by rw [PyData.eqv]; exact eqs_of xs ys⟩
instance [D : Dat K t] [D' : Dat K u] : Dat K (yPr K t u) := ⟨fun x => .tuple [D.enc x.1, D'.enc x.2], fun x S H v ⟨a, vs, e, h1, h2, _⟩ => by
    subst e
    match vs, h2 with
    | [v1, v2], h2 => exact .tup h1 (.cons (D.dp _ _ _ _ h2.1) (.cons (D'.dp _ _ _ _ h2.2.1) .nil)), fun x => by simp [PyData.plain, PyData.plainAll, D.pl, D'.pl], max D.n D'.n + 1, fun x S H v ⟨a, vs, e, h1, h2, _⟩ => by
    match vs, h2 with
    | [v1, v2], h2 => simp only [PyData.depth, PyData.depthAll]; have := D.dep _ _ _ _ h2.1; have := D'.dep _ _ _ _ h2.2.1; omega, fun x y => by
    simp only [PyData.eqv, PyData.eqvAll, Bool.and_true, Bool.and_eq_true, D.eq, D'.eq]
    exact ⟨fun h => Prod.ext h.1 h.2, fun h => by rw [h]; exact ⟨rfl, rfl⟩⟩⟩
instance [D : Dat K t] [D' : Dat K u] [D2 : Dat K w] : Dat K (yTr K t u w) := ⟨fun x => .tuple [D.enc x.1, D'.enc x.2.1, D2.enc x.2.2], fun x S H v ⟨a, vs, e, h1, h2, _⟩ => by
    subst e
    match vs, h2 with
    | [v1, v2, v3], h2 => exact .tup h1 (.cons (D.dp _ _ _ _ h2.1) (.cons (D'.dp _ _ _ _ h2.2.1) (.cons (D2.dp _ _ _ _ h2.2.2.1) .nil))), fun x => by simp [PyData.plain, PyData.plainAll, D.pl, D'.pl, D2.pl], max D.n (max D'.n D2.n) + 1, fun x S H v ⟨a, vs, e, h1, h2, _⟩ => by
    match vs, h2 with
    | [v1, v2, v3], h2 => simp only [PyData.depth, PyData.depthAll]; have := D.dep _ _ _ _ h2.1; have := D'.dep _ _ _ _ h2.2.1; have := D2.dep _ _ _ _ h2.2.2.1; omega, fun x y => by
    simp only [PyData.eqv, PyData.eqvAll, Bool.and_true, Bool.and_eq_true, D.eq, D'.eq, D2.eq]
    exact ⟨fun h => Prod.ext h.1 (Prod.ext h.2.1 h.2.2), fun h => by rw [h]; exact ⟨rfl, rfl, rfl⟩⟩⟩
end
section
variable {ρ : Type} {A : Nat → Addr} {E : L2.St → XK} {K : PySem.W.Frag} {Γ : Ctx} {c : Res ρ} {κ : Ctx → Vo → Res ρ → Prop} {P P' : Pv} {ps qs : List Pv} {α β : Type} {t : α → Pv} {td ty tx te ta tb : TE} {Δ : Dl ρ}
theorem rx_eqD [DecidableEq α] [D : Dat K t] (hn : D.n ≤ 32) {x y : α} (h : κ Γ (.val (yBl (decide (x = y)))) c) : RX A E (Sl.rEqP K) (t x) (t y) Γ c κ := fun F T S σ H v w Q O R hc h1 h2 k => by
  refine ⟨_, _, D.dp _ _ _ _ h1, D.dp _ _ _ _ h2, ⟨D.pl x, Nat.le_trans (D.dep _ _ _ _ h1) hn⟩, ⟨D.pl y, Nat.le_trans (D.dep _ _ _ _ h2) hn⟩, ?_⟩
  have e : PyData.eqv (D.enc x) (D.enc y) = decide (x = y) := by rw [Bool.eq_iff_iff, D.eq]; simp
  rw [e]
  exact k _ _ _ h S H _ R Le.refl rfl hc
theorem rx_neD [DecidableEq α] [D : Dat K t] (hn : D.n ≤ 32) {x y : α} (h : κ Γ (.val (yBl (!decide (x = y)))) c) : RX A E (Sl.rNeP K) (t x) (t y) Γ c κ := fun F T S σ H v w Q O R hc h1 h2 k => by
  refine ⟨_, _, D.dp _ _ _ _ h1, D.dp _ _ _ _ h2, ⟨D.pl x, Nat.le_trans (D.dep _ _ _ _ h1) hn⟩, ⟨D.pl y, Nat.le_trans (D.dep _ _ _ _ h2) hn⟩, ?_⟩
  have e : PyData.eqv (D.enc x) (D.enc y) = decide (x = y) := by rw [Bool.eq_iff_iff, D.eq]; simp
  rw [e]
  exact k _ _ _ h S H _ R Le.refl rfl hc
theorem any_of [DecidableEq α] [D : Dat K t] (x : α) : ∀ ys : List α, ((ys.map D.enc).any fun z => PyData.eqv z (D.enc x)) = decide (x ∈ ys)
  | [] => by simp
  | y :: ys => by
    rw [List.map_cons, List.any_cons, any_of x ys]
    have e : PyData.eqv (D.enc y) (D.enc x) = decide (y = x) := by rw [Bool.eq_iff_iff, D.eq]; simp
    rw [e, Bool.eq_iff_iff]
    simp only [Bool.or_eq_true, decide_eq_true_eq, List.mem_cons]
    exact ⟨fun h => h.imp Eq.symm id, fun h => h.imp Eq.symm id⟩
/-- x in ys, ys a list, a tuple or either -/
class SeqK (K : PySem.W.Frag) (p : List Pv → Pv) where
  sq : ∀ ps S H v, (p ps).p S H v → ∃ a vs, v = .ref a ∧ (SqL K H a vs ∨ SqT K H a vs) ∧ PsOk S H vs ps ∧ vs.length ≤ sizeLine
instance : SeqK K (pLst K) := ⟨fun ps S H v ⟨a, vs, e, h1, h2, h3⟩ => ⟨a, vs, e, .inl h1.1, h2, h3⟩⟩
instance : SeqK K (pTup K) := ⟨fun ps S H v ⟨a, vs, e, h1, h2, h3⟩ => ⟨a, vs, e, .inr h1, h2, h3⟩⟩
instance : SeqK K (pSeq K) := ⟨fun ps S H v h => h.elim (fun ⟨a, vs, e, h1, h2, h3⟩ => ⟨a, vs, e, .inl h1.1, h2, h3⟩) fun ⟨a, vs, e, h1, h2, h3⟩ => ⟨a, vs, e, .inr h1, h2, h3⟩⟩
theorem rx_inD (p : List Pv → Pv) [Q : SeqK K p] [DecidableEq α] [D : Dat K t] (hn : D.n ≤ 32) {x : α} {ys : List α} (h : κ Γ (.val (yBl (decide (x ∈ ys)))) c) : RX A E (Sl.rInP K false) (t x) (p (ys.map t)) Γ c κ := fun F T S σ H v w Q' O R hc h1 h2 k => by
  obtain ⟨a, vs, rfl, hs, hv, _⟩ := Q.sq _ _ _ _ h2
  refine ⟨_, ys.map D.enc, D.dp _ _ _ _ h1, hs.imp (fun h => .lst h (dps_of hv)) fun h => .tup h (dps_of hv), ⟨D.pl x, Nat.le_trans (D.dep _ _ _ _ h1) hn⟩, pls_of ys, ?_⟩
  rw [any_of]
  exact k _ _ _ h S H _ R Le.refl rfl hc
theorem rx_ninD (p : List Pv → Pv) [Q : SeqK K p] [DecidableEq α] [D : Dat K t] (hn : D.n ≤ 32) {x : α} {ys : List α} (h : κ Γ (.val (yBl (!decide (x ∈ ys)))) c) : RX A E (Sl.rInP K true) (t x) (p (ys.map t)) Γ c κ := fun F T S σ H v w Q' O R hc h1 h2 k => by
  obtain ⟨a, vs, rfl, hs, hv, _⟩ := Q.sq _ _ _ _ h2
  refine ⟨_, ys.map D.enc, D.dp _ _ _ _ h1, hs.imp (fun h => .lst h (dps_of hv)) fun h => .tup h (dps_of hv), ⟨D.pl x, Nat.le_trans (D.dep _ _ _ _ h1) hn⟩, pls_of ys, ?_⟩
  rw [any_of]
  exact k _ _ _ h S H _ R Le.refl rfl hc
/-! subscripts -/
theorem atI_of {S : Fz} {H : Hp} {vs : List V} {i : Int} (h : PsOk S H vs ps) : ∀ {P}, atI ps i = some P → ∃ v, atI vs i = some v ∧ P.p S H v := fun {P} e => by
  unfold atI at e ⊢
  rw [h.length]
  cases z : ixN ps.length i with
  | none => rw [z] at e; cases e
  | some j =>
    rw [z] at e
    exact h.at' e
theorem atI_map {i : Int} {xs : List α} {f : α → β} {x : α} (h : atI xs i = some x) : atI (xs.map f) i = some (f x) := by
  unfold atI at h ⊢
  rw [List.length_map]
  cases z : ixN xs.length i with
  | none => rw [z] at h; cases h
  | some j =>
    rw [z] at h
    show (xs.map f)[j]? = _
    have h : xs[j]? = some x := h
    rw [List.getElem?_map, h]; rfl
theorem rx_ixT {i : Int} (hi : atI ps i = some P) (h : κ Γ (.val P) c) : RX A E (rIxT K) (pTup K ps) (yInt i) Γ c κ := fun F T S σ H v w Q O R hc h1 h2 k => by
  obtain ⟨a, vs, rfl, hs, hv, _⟩ := h1
  obtain ⟨v, e, hp⟩ := atI_of hv hi
  exact ⟨a, vs, i, v, rfl, h2, hs, e, k _ _ _ h S H _ R Le.refl hp hc⟩
theorem pidx_of {xs : List α} {i : Int} {k : α → Res ρ} {T : Res ρ → Prop} (nb : ¬ T .bad) (h : T ((pidx xs i).bind k)) : ∃ x, atI xs i = some x ∧ T (k x) := by
  unfold pidx at h
  cases e : atI xs i with
  | none => rw [e] at h; exact absurd h nb
  | some x => rw [e] at h; exact ⟨x, rfl, h⟩
theorem rx_ixTs {xs : List α} {i : Int} {k : α → Res ρ} (qs : List Pv) (e : c = (psel xs i).bind k) (h : ∀ x, κ Γ (.val (t x)) (k x)) : RX A E (rIxT K) (pTup K (xs.map t ++ qs)) (yInt i) Γ c κ := fun F T S σ H v w Q O R hc h1 h2 kk => by
  subst e
  unfold psel at hc
  by_cases z : 0 ≤ i
  · rw [if_pos z] at hc
    obtain ⟨n, rfl⟩ := Int.eq_ofNat_of_zero_le z
    cases e : xs[(Int.ofNat n).toNat]? with
    | none => simp only [Int.ofNat_eq_natCast] at e; rw [e] at hc; exact absurd hc O.nb
    | some x =>
      simp only [Int.ofNat_eq_natCast] at e
      rw [e] at hc
      have e' : xs[n]? = some x := by simpa using e
      have hx : (xs.map t ++ qs)[n]? = some (t x) := by
        rw [List.getElem?_append_left (by rw [List.length_map]; exact (List.getElem?_eq_some_iff.mp e').1), List.getElem?_map, e']; rfl
      exact rx_ixT (A := A) (E := E) (K := K) (c := k x) (κ := κ) (atI_nat hx) (h x) F T S σ H v w Q O R hc h1 h2 kk
  · rw [if_neg z] at hc; exact absurd hc O.nb
theorem rx_ixLp {xs : List α} {i : Int} {k : α → Res ρ} (e : c = (pidx xs i).bind k) (h : ∀ x, κ Γ (.val (t x)) (k x)) : RX A E (rIxL K) (yLst K t xs) (yInt i) Γ c κ := fun F T S σ H v w Q O R hc h1 h2 kk => by
  subst e
  obtain ⟨x, hx, hT⟩ := pidx_of O.nb hc
  obtain ⟨a, vs, rfl, hs, hv, _⟩ := h1
  obtain ⟨v, e, hp⟩ := atI_of hv (atI_map (f := t) hx)
  exact ⟨a, vs, i, v, rfl, h2, hs.1, e, kk _ _ _ (h x) S H _ R Le.refl hp hT⟩
/-! slices -/
theorem cut_ok {S : Fz} {H : Hp} {vs : List V} {lo hi : Option Int} (h : PsOk S H vs ps) : PsOk S H (cutV vs lo hi) (pcut ps lo hi) := by
  unfold cutV pcut
  rw [h.length]
  exact PsOk.take _ (PsOk.drop _ h)
theorem pcut_map {lo hi : Option Int} {xs : List α} {f : α → β} : pcut (xs.map f) lo hi = (pcut xs lo hi).map f := by
  unfold pcut
  rw [List.length_map, List.map_take, List.map_drop]
theorem cutV_le {vs : List V} {lo hi : Option Int} : (cutV vs lo hi).length ≤ vs.length := by
  unfold cutV
  rw [List.length_take, List.length_drop]; omega
/-- the bounds -/
def WO (A : Nat → Addr) (E : L2.St → XK) (Γ : Ctx) (t : TO) (c : Res ρ) (κ : Ctx → Option Int → Res ρ → Prop) : Prop :=
  ∀ (F : Fr) (T : Res ρ → Prop) (S : Fz) (σ : L2.St) (H : Hp) (Q : Option Int → Hp → Prop), Ok0 A (E σ) F T → Rel F Γ S σ H → T c →
    (∀ Γ' b c', κ Γ' b c' → ∀ S' H', Rel F Γ' S' σ H' → Le S H S' H' → T c' → Q b H') → t σ H Q
theorem wo_no {κ : Ctx → Option Int → Res ρ → Prop} (h : κ Γ none c) : WO A E Γ tNoPart c κ := fun F T S σ H Q O R hc k => k _ _ _ h S H R Le.refl hc
theorem wo_some {κ : Ctx → Option Int → Res ρ → Prop} (h : WX A E Γ te c fun Γ1 V c1 => ∃ i, V = .val (yInt i) ∧ κ Γ1 (some i) c1) : WO A E Γ (tPart te) c κ := fun F T S σ H Q O R hc k => by
  refine h F T S σ H _ O R hc fun Γ1 V c1 h1 S1 H1 x R1 l1 p1 hc1 => ?_
  obtain ⟨i, rfl, h1⟩ := h1
  exact ⟨i, p1, k _ _ _ h1 S1 H1 R1 l1 hc1⟩
theorem wx_slT {tl th : TO} (h : WX A E Γ te c fun Γ1 V c1 => ∃ ps, V = .val (pTup K ps) ∧ WO A E Γ1 tl c1 fun Γ2 lo c2 => WO A E Γ2 th c2 fun Γ3 hi c3 => κ Γ3 (.val (pTup K (pcut ps lo hi))) c3) : WX A E Γ (tSl (rSlA K) te tl th) c κ := fun F T S σ H Q O R hc k => by
  refine h F T S σ H _ O R hc fun Γ1 V c1 h1 S1 H1 x R1 l1 p1 hc1 => ?_
  obtain ⟨ps, rfl, h1⟩ := h1
  refine h1 F T S1 σ H1 _ O R1 hc1 fun Γ2 lo c2 h2 S2 H2 R2 l2 hc2 => ?_
  refine h2 F T S2 σ H2 _ O R2 hc2 fun Γ3 hi c3 h3 S3 H3 R3 l3 hc3 => ?_
  obtain ⟨a, vs, rfl, hs, hv, hl⟩ := (pTup K ps).up (l2.trans l3) p1
  have l13 := (l1.trans l2).trans l3
  have hc := cut_ok (lo := lo) (hi := hi) hv
  have hl' : (cutV vs lo hi).length ≤ sizeLine := Nat.le_trans cutV_le hl
  refine ⟨a, vs, rfl, hs, fun w => ?_, fun _ p hp => ?_⟩
  · have e : cutV vs lo hi = vs := by unfold cutV; rw [w.1, w.2]; simp
    rw [e] at hc
    exact k _ _ _ h3 S3 H3 _ R3 l13 ⟨a, vs, rfl, hs, hc, hl⟩ hc3
  · exact k _ _ _ h3 S3 _ _ (R3.new hp) (l13.trans (le_new hp)) ⟨p, _, rfl, .inl (.inl upd_same), hc.up (le_new hp), hl'⟩ hc3
theorem wx_slL {tl th : TO} (h : WX A E Γ te c fun Γ1 V c1 => ∃ ps, V = .val (pLst K ps) ∧ WO A E Γ1 tl c1 fun Γ2 lo c2 => WO A E Γ2 th c2 fun Γ3 hi c3 => κ Γ3 (.own (oLst K (pcut ps lo hi))) c3) : WX A E Γ (tSl (rSlL K) te tl th) c κ := fun F T S σ H Q O R hc k => by
  refine h F T S σ H _ O R hc fun Γ1 V c1 h1 S1 H1 x R1 l1 p1 hc1 => ?_
  obtain ⟨ps, rfl, h1⟩ := h1
  refine h1 F T S1 σ H1 _ O R1 hc1 fun Γ2 lo c2 h2 S2 H2 R2 l2 hc2 => ?_
  refine h2 F T S2 σ H2 _ O R2 hc2 fun Γ3 hi c3 h3 S3 H3 R3 l3 hc3 => ?_
  obtain ⟨a, vs, rfl, hs, hv, hl⟩ := (pLst K ps).up (l2.trans l3) p1
  refine ⟨a, vs, rfl, hs.1, fun p hp => ?_⟩
  exact k _ _ _ h3 S3 _ _ (R3.new hp) (((l1.trans l2).trans l3).trans (le_new hp)) (isOwn R3 hp ⟨_, rfl, (cut_ok hv).up (le_new hp), Nat.le_trans cutV_le hl⟩) hc3
/-! + of lists and tuples -/
theorem pcat_of {xs ys : List α} {k : List α → Res ρ} {T : Res ρ → Prop} (nb : ¬ T .bad) (h : T ((pcat xs ys).bind k)) : xs.length + ys.length ≤ 100000 ∧ T (k (xs ++ ys)) := by
  unfold pcat at h
  by_cases z : xs.length + ys.length ≤ 100000
  · rw [if_pos z] at h; exact ⟨z, h⟩
  · rw [if_neg z] at h; exact absurd h nb
theorem rx_catL {xs ys : List α} {k : List α → Res ρ} (e : c = (pcat xs ys).bind k) (h : κ Γ (.own (wLst K t (xs ++ ys))) (k (xs ++ ys))) : RX A E (rCatS K) (yLst K t xs) (yLst K t ys) Γ c κ := fun F T S σ H v w Q O R hc h1 h2 kk => by
  subst e
  obtain ⟨hz, hT⟩ := pcat_of O.nb hc
  obtain ⟨a, vs, rfl, hs, hv, hl⟩ := h1
  obtain ⟨b, ws, rfl, hs', hv', hl'⟩ := h2
  have e1 := hv.length
  have e2 := hv'.length
  rw [List.length_map] at e1 e2
  have ha : PsOk S H (vs ++ ws) ((xs ++ ys).map t) := by rw [List.map_append]; exact hv.app hv'
  exact ⟨a, b, vs, ws, rfl, rfl, hs.1, hs'.1, sz (by omega), fun p hp => kk _ _ _ h S _ _ (R.new hp) (le_new hp) (isOwn R hp ⟨_, rfl, ha.up (le_new hp), sz (by rw [List.length_append]; omega)⟩) hT⟩
/-! ints -/
theorem rx_it {C : Int → Int → Prop} {g : Int → Int → V} {f : Int → Int → Int} {x y : Int} (hC : C x y) (hg : g x y = .int (f x y)) (h : κ Γ (.val (yInt (f x y))) c) : RX A E (rI C g) (yInt x) (yInt y) Γ c κ := fun F T S σ H v w Q O R hc h1 h2 k => ⟨x, y, h1, h2, hC, k _ _ _ h S H _ R Le.refl hg hc⟩
theorem rx_mod {g : Int → Int → V} {x y : Int} {k : Int → Res ρ} (hg : g x y = .int (x % y)) (e : c = (pmod x y).bind k) (h : ∀ z, κ Γ (.val (yInt z)) (k z)) : RX A E (rI (fun _ j => 0 < j) g) (yInt x) (yInt y) Γ c κ := fun F T S σ H v w Q O R hc h1 h2 kk => by
  subst e
  unfold pmod at hc
  by_cases z : 0 < y
  · rw [if_pos z] at hc
    exact ⟨x, y, h1, h2, z, kk _ _ _ (h _) S H _ R Le.refl hg hc⟩
  · rw [if_neg z] at hc; exact absurd hc O.nb
theorem rx_div {g : Int → Int → V} {x y : Int} {k : Int → Res ρ} (hg : g x y = .int (x / y)) (e : c = (pdiv x y).bind k) (h : ∀ z, κ Γ (.val (yInt z)) (k z)) : RX A E (rI CDiv g) (yInt x) (yInt y) Γ c κ := fun F T S σ H v w Q O R hc h1 h2 kk => by
  subst e
  unfold pdiv at hc
  by_cases z : 0 < y ∧ y < 1073741824
  · rw [if_pos z] at hc
    exact ⟨x, y, h1, h2, z, kk _ _ _ (h _) S H _ R Le.refl hg hc⟩
  · rw [if_neg z] at hc; exact absurd hc O.nb
theorem rx_mul {g : Int → Int → V} {x y : Int} {k : Int → Res ρ} (hg : g x y = .int (x * y)) (e : c = (pmul x y).bind k) (h : ∀ z, κ Γ (.val (yInt z)) (k z)) : RX A E (rI CMul g) (yInt x) (yInt y) Γ c κ := fun F T S σ H v w Q O R hc h1 h2 kk => by
  subst e
  unfold pmul at hc
  by_cases z : (-(2 ^ 64) < x ∧ x < 2 ^ 64) ∨ (-(2 ^ 64) < y ∧ y < 2 ^ 64)
  · rw [if_pos z] at hc
    exact ⟨x, y, h1, h2, z, kk _ _ _ (h _) S H _ R Le.refl hg hc⟩
  · rw [if_neg z] at hc; exact absurd hc O.nb
theorem rx_cmp {g : Int → Int → V} {x y : Int} {b : Bool} (hg : g x y = .bl b) (h : κ Γ (.val (yBl b)) c) : RX A E (rI0 g) (yInt x) (yInt y) Γ c κ := fun F T S σ H v w Q O R hc h1 h2 k => ⟨x, y, h1, h2, k _ _ _ h S H _ R Le.refl hg hc⟩
theorem rx_ari {g : Int → Int → V} {x y z : Int} (hg : g x y = .int z) (h : κ Γ (.val (yInt z)) c) : RX A E (rI0 g) (yInt x) (yInt y) Γ c κ := fun F T S σ H v w Q O R hc h1 h2 k => ⟨x, y, h1, h2, k _ _ _ h S H _ R Le.refl hg hc⟩
theorem ru_neg {x : Int} (h : κ Γ (.val (yInt (-x))) c) : RU A E (rU fun i => .int (-i)) (yInt x) Γ c κ := fun F T S σ H v Q O R hc h1 k => ⟨x, h1, k _ _ _ h S H _ R Le.refl rfl hc⟩
/-! x is None -/
theorem rx_isN {x : Option α} (hx : ∀ x S H v, (t x).p S H v → v ≠ .non) (h : κ Γ (.val (yBl x.isNone)) c) : RX A E (fun x y H Q => y = .non ∧ Q (.bl (decide (x = .non))) H) (yOpt t x) yNon Γ c κ := fun F T S σ H v w Q O R hc h1 h2 k => by
  refine ⟨h2, ?_⟩
  have e : decide (v = .non) = x.isNone := by
    cases x with
    | none => have : v = .non := h1; simp [this]
    | some x => have : v ≠ .non := hx x S H v h1; simp [this]
  rw [e]
  exact k _ _ _ h S H _ R Le.refl rfl hc
/-! ### calls of built-ins -/
theorem ag1 {σ : L2.St} {S : Fz} {H : Hp} {vs : List V} (h : AgsOk σ S H vs [.val P]) : ∃ v, vs = [v] ∧ P.p S H v := by
  match vs, h with
  | [v], h => exact ⟨v, rfl, h.1⟩
theorem ag2 {σ : L2.St} {S : Fz} {H : Hp} {vs : List V} (h : AgsOk σ S H vs [.val P, .val P']) : ∃ v w, vs = [v, w] ∧ P.p S H v ∧ P'.p S H w := by
  match vs, h with
  | [v, w], h => exact ⟨v, w, rfl, h.1, h.2.1⟩
theorem rc_lenSq (p : List Pv → Pv) [Q : SeqK K p] (h : κ Γ (.val (yInt (ps.length : Int))) c) : RC A E (fun _ => Sl.rLenK K) [.val (p ps)] Γ c κ := fun F T S σ H vs Q' O R hc hg k => by
  obtain ⟨v, rfl, hv⟩ := ag1 hg
  obtain ⟨a, ws, rfl, hs, hw, _⟩ := Q.sq _ _ _ _ hv
  refine ⟨_, ps.length, rfl, hs.imp (fun h => ⟨ws, h, hw.length.symm⟩) fun h => ⟨ws, h, hw.length.symm⟩, k _ _ _ h S H _ R Le.refl rfl hc⟩
theorem rc_list (p : List Pv → Pv) [Q : SeqK K p] (h : κ Γ (.own (oLst K ps)) c) : RC A E (fun _ => Sl.rListOf K) [.val (p ps)] Γ c κ := fun F T S σ H vs Q' O R hc hg k => by
  obtain ⟨v, rfl, hv⟩ := ag1 hg
  obtain ⟨a, ws, rfl, hs, hw, hl⟩ := Q.sq _ _ _ _ hv
  exact ⟨a, ws, rfl, hs, fun l hp => k _ _ _ h S _ _ (R.new hp) (le_new hp) (isOwn R hp ⟨ws, rfl, hw.up (le_new hp), hl⟩) hc⟩
theorem rc_listD {kps : List (Key × Pv)} {κk : Type} {tk : κk → Pv} [KV : KeyV κk tk] {ks : List κk} (hk : kps.map (·.1) = ks.map KV.ky) (hk' : ∀ k S H, (tk k).p S H (kV (KV.ky k))) (h : κ Γ (.own (wLst K tk ks)) c) : RC A E (fun _ xs H Q => ∃ (a : Addr) (kvs : List (Key × V)), xs = [.ref a] ∧ Rd H a (.dK kvs) ∧ ∀ p, H p = none → Q (.ref p) (upd H p (.lst (kvs.map fun kv => kV kv.1)))) [.val (pDct kps)] Γ c κ := fun F T S σ H vs Q' O R hc hg k => by
  obtain ⟨v, rfl, hv⟩ := ag1 hg
  obtain ⟨a, kvs, rfl, hs, hr, hkp, hl⟩ := hv
  refine ⟨a, kvs, rfl, hr, fun p hp => k _ _ _ h S _ _ (R.new hp) (le_new hp) (isOwn R hp ⟨_, rfl, ?_, by rw [List.length_map]; exact hl⟩) hc⟩
  have e := hkp.keys
  rw [hk] at e
  have e2 : (kvs.map fun kv => kV kv.1) = ks.map fun k => kV (KV.ky k) := by
    have := congrArg (List.map kV) e
    rw [List.map_map, List.map_map] at this
    exact this
  rw [e2]
  generalize upd H p (.lst (ks.map fun k => kV (KV.ky k))) = H2
  clear e e2 hk h
  induction ks with
  | nil => trivial
  | cons q qs ih => exact ⟨hk' q _ _, ih⟩
theorem rc_tuple (p : List Pv → Pv) [Q : SeqK K p] (h : κ Γ (.val (pTup K ps)) c) : RC A E (fun _ => Sl.rTupleOf K) [.val (p ps)] Γ c κ := fun F T S σ H vs Q' O R hc hg k => by
  obtain ⟨v, rfl, hv⟩ := ag1 hg
  obtain ⟨a, ws, rfl, hs, hw, hl⟩ := Q.sq _ _ _ _ hv
  rcases hs with hs | hs
  · exact ⟨a, ws, rfl, .inl ⟨hs, fun l hp => k _ _ _ h S _ _ (R.new hp) (le_new hp) ⟨l, ws, rfl, .inl (.inl upd_same), hw.up (le_new hp), hl⟩ hc⟩⟩
  · exact ⟨a, ws, rfl, .inr ⟨hs, k _ _ _ h S H _ R Le.refl ⟨a, ws, rfl, hs, hw, hl⟩ hc⟩⟩
theorem strs_of {S : Fz} {H : Hp} : ∀ {vs : List V} {xs : List Str}, PsOk S H vs (xs.map yStr) → vs = xs.map V.str
  | [], [], _ => rfl
  | [], _ :: _, h => False.elim h
  | _ :: _, [], h => False.elim h
  | v :: vs, x :: xs, h => by
    have e : v = .str x := h.1
    rw [e, strs_of h.2]; rfl
theorem of_strs {S : Fz} {H : Hp} : ∀ (xs : List Str), PsOk S H (xs.map V.str) (xs.map yStr)
  | [] => trivial
  | x :: xs => ⟨rfl, of_strs xs⟩
theorem ints_of {S : Fz} {H : Hp} : ∀ {vs : List V} {xs : List Int}, PsOk S H vs (xs.map yInt) → vs = xs.map V.int
  | [], [], _ => rfl
  | [], _ :: _, h => False.elim h
  | _ :: _, [], h => False.elim h
  | v :: vs, x :: xs, h => by
    have e : v = .int x := h.1
    rw [e, ints_of h.2]; rfl
theorem of_ints {S : Fz} {H : Hp} : ∀ (xs : List Int), PsOk S H (xs.map V.int) (xs.map yInt)
  | [] => trivial
  | x :: xs => ⟨rfl, of_ints xs⟩
theorem bls_of {S : Fz} {H : Hp} : ∀ {vs : List V} {xs : List Bool}, PsOk S H vs (xs.map yBl) → vs = xs.map V.bl
  | [], [], _ => rfl
  | [], _ :: _, h => False.elim h
  | _ :: _, [], h => False.elim h
  | v :: vs, x :: xs, h => by
    have e : v = .bl x := h.1
    rw [e, bls_of h.2]; rfl
theorem psortS_of {xs : List Str} {k : List Str → Res ρ} {T : Res ρ → Prop} (nb : ¬ T .bad) (h : T ((psortS xs).bind k)) : xs.length < 64 ∧ T (k (sortS xs)) := by
  unfold psortS at h
  by_cases z : xs.length < 64
  · rw [if_pos z] at h; exact ⟨z, h⟩
  · rw [if_neg z] at h; exact absurd h nb
theorem rc_sortS {xs : List Str} {k : List Str → Res ρ} (e : c = (psortS xs).bind k) (h : κ Γ (.own (wLst K yStr (sortS xs))) (k (sortS xs))) : RC A E (fun _ => rSortedS K) [.val (yLst K yStr xs)] Γ c κ := fun F T S σ H vs Q' O R hc hg kk => by
  subst e
  obtain ⟨hz, hT⟩ := psortS_of O.nb hc
  obtain ⟨v, rfl, hv⟩ := ag1 hg
  obtain ⟨a, ws, rfl, hs, hw, hl⟩ := hv
  have e := strs_of hw
  subst e
  refine ⟨a, xs, rfl, hs.1, hz, fun ys p hp srt hn => ?_⟩
  have e := sortS_of hp srt
  subst e
  exact kk _ _ _ h S _ _ (R.new hn) (le_new hn) (isOwn R hn ⟨_, rfl, of_strs _, sz (by rw [List.length_map, hp.length_eq]; omega)⟩) hT
theorem rc_sortD {kps : List (Key × Pv)} {xs : List Str} (hk : kps.map (·.1) = xs.map Sum.inr) {k : List Str → Res ρ} (e : c = (psortS xs).bind k) (h : κ Γ (.own (wLst K yStr (sortS xs))) (k (sortS xs))) : RC A E (fun _ xs H Q => ∃ (a : Addr) (kvs : List (Key × V)) (ks : List Str), xs = [.ref a] ∧ Rd H a (.dK kvs) ∧ kvs.map (·.1) = ks.map Sum.inr ∧ ks.length < 64 ∧
    ∀ ys p, ys.Perm ks → sortedS ys = true → H p = none → Q (.ref p) (upd H p (.lst (ys.map V.str)))) [.val (pDct kps)] Γ c κ := fun F T S σ H vs Q' O R hc hg kk => by
  subst e
  obtain ⟨hz, hT⟩ := psortS_of O.nb hc
  obtain ⟨v, rfl, hv⟩ := ag1 hg
  obtain ⟨a, kvs, rfl, hs, hr, hkp, hl⟩ := hv
  refine ⟨a, kvs, xs, rfl, hr, hkp.keys.trans hk, hz, fun ys p hp srt hn => ?_⟩
  have e := sortS_of hp srt
  subst e
  exact kk _ _ _ h S _ _ (R.new hn) (le_new hn) (isOwn R hn ⟨_, rfl, of_strs _, sz (by rw [List.length_map, hp.length_eq]; omega)⟩) hT
theorem rc_all {bs : List Bool} (h : κ Γ (.val (yBl (bs.all id))) c) : RC A E (fun _ => rAll K) [.val (yLst K yBl bs)] Γ c κ := fun F T S σ H vs Q' O R hc hg kk => by
  obtain ⟨v, rfl, hv⟩ := ag1 hg
  obtain ⟨a, ws, rfl, hs, hw, hl⟩ := hv
  have e := bls_of hw
  subst e
  exact ⟨a, bs, rfl, hs.1, kk _ _ _ h S H _ R Le.refl rfl hc⟩
theorem rc_int1 {x : Int} (h : κ Γ (.val (yInt x)) c) : RC A E (fun _ xs H Q => (∃ i, xs = [.int i] ∧ Q (.int i) H) ∨ ∃ k, xs = [.bl k] ∧ Q (.int (if k then 1 else 0)) H) [.val (yInt x)] Γ c κ := fun F T S σ H vs Q' O R hc hg kk => by
  obtain ⟨v, rfl, hv⟩ := ag1 hg
  exact .inl ⟨x, by rw [show v = .int x from hv], kk _ _ _ h S H _ R Le.refl rfl hc⟩
theorem foldl_max (x : Int) : ∀ r : List Int, (r.foldl max x ∈ x :: r) ∧ ∀ y ∈ x :: r, y ≤ r.foldl max x := by
  intro r
  induction r generalizing x with
  | nil => simp
  | cons z r ih =>
    obtain ⟨h1, h2⟩ := ih (max x z)
    rw [List.foldl_cons]
    refine ⟨?_, fun y hy => ?_⟩
    · rcases List.mem_cons.mp h1 with e | e
      · rw [e]
        rcases Int.le_total x z with h | h
        · rw [Int.max_eq_right h]; simp
        · rw [Int.max_eq_left h]; simp
      · exact List.mem_cons_of_mem _ (List.mem_cons_of_mem _ e)
    · have := h2 (max x z) (List.mem_cons_self ..)
      simp only [List.mem_cons] at hy
      rcases hy with e | e | e
      · subst e; omega
      · subst e; omega
      · exact h2 y (List.mem_cons_of_mem _ e)
theorem foldl_min (x : Int) : ∀ r : List Int, (r.foldl min x ∈ x :: r) ∧ ∀ y ∈ x :: r, r.foldl min x ≤ y := by
  intro r
  induction r generalizing x with
  | nil => simp
  | cons z r ih =>
    obtain ⟨h1, h2⟩ := ih (min x z)
    rw [List.foldl_cons]
    refine ⟨?_, fun y hy => ?_⟩
    · rcases List.mem_cons.mp h1 with e | e
      · rw [e]
        rcases Int.le_total x z with h | h
        · rw [Int.min_eq_left h]; simp
        · rw [Int.min_eq_right h]; simp
      · exact List.mem_cons_of_mem _ (List.mem_cons_of_mem _ e)
    · have := h2 (min x z) (List.mem_cons_self ..)
      simp only [List.mem_cons] at hy
      rcases hy with e | e | e
      · subst e; omega
      · subst e; omega
      · exact h2 y (List.mem_cons_of_mem _ e)
theorem rc_max {xs : List Int} {k : Int → Res ρ} (e : c = (pmaxI xs).bind k) (h : ∀ x, κ Γ (.val (yInt x)) (k x)) : RC A E (fun _ => rMax K) [.val (yLst K yInt xs)] Γ c κ := fun F T S σ H vs Q' O R hc hg kk => by
  subst e
  obtain ⟨v, rfl, hv⟩ := ag1 hg
  obtain ⟨a, ws, rfl, hs, hw, hl⟩ := hv
  have e := ints_of hw
  subst e
  cases xs with
  | nil => exact absurd hc O.nb
  | cons x r =>
    refine ⟨a, x :: r, rfl, hs.1, by simp, fun m hm hle => ?_⟩
    obtain ⟨h1, h2⟩ := foldl_max x r
    have e : m = r.foldl max x := Int.le_antisymm (h2 m hm) (hle _ h1)
    subst e
    exact kk _ _ _ (h _) S H _ R Le.refl rfl hc
theorem rc_min {xs : List Int} {k : Int → Res ρ} (e : c = (pminI xs).bind k) (h : ∀ x, κ Γ (.val (yInt x)) (k x)) : RC A E (fun _ => rMin K) [.val (yLst K yInt xs)] Γ c κ := fun F T S σ H vs Q' O R hc hg kk => by
  subst e
  obtain ⟨v, rfl, hv⟩ := ag1 hg
  obtain ⟨a, ws, rfl, hs, hw, hl⟩ := hv
  have e := ints_of hw
  subst e
  cases xs with
  | nil => exact absurd hc O.nb
  | cons x r =>
    refine ⟨a, x :: r, rfl, hs.1, by simp, fun m hm hle => ?_⟩
    obtain ⟨h1, h2⟩ := foldl_min x r
    have e : m = r.foldl min x := Int.le_antisymm (hle _ h1) (h2 m hm)
    subst e
    exact kk _ _ _ (h _) S H _ R Le.refl rfl hc
/-! isinstance, whose answer the kind tells -/
class HasTy (K : PySem.W.Frag) {α : Type} (t : α → Pv) (T : outParam String) where
  ty : ∀ x S H v, (t x).p S H v → TyX K H v (.type T)
def yCls (T : String) : Pv := ⟨fun _ _ v => v = .ty T, fun _ h => h⟩
theorem rc_isi {T1 T2 : String} [I : HasTy K t T1] {x : α} {b : Bool} (hb : PySem.W.kitOne K (.type T1) (.type T2) = some b) (h : κ Γ (.val (yBl b)) c) : RC A E (fun _ => rIsi K) [.val (t x), .val (yCls T2)] Γ c κ := fun F T S σ H vs Q' O R hc hg kk => by
  obtain ⟨v, w, rfl, hv, hw⟩ := ag2 hg
  cases hw
  exact ⟨v, _, _, _, b, rfl, .ty T2, I.ty x S H v hv, hb, kk _ _ _ h S H _ R Le.refl rfl hc⟩
end
end Mi
namespace Mi
open PySem PySem.Spec PyProof.Rows L2
open Sl (isTup sz szl slt)
/-! ### objects that do not change -/
def FlOk (S : Fz) (H : Hp) : List (Str × V) → List (Str × Pv) → Prop
  | [], [] => True
  | kv :: kvs, kp :: kps => (kv.1 = kp.1 ∧ kp.2.p S H kv.2) ∧ FlOk S H kvs kps
  | _, _ => False
section
variable {S S' : Fz} {H H' : Hp}
theorem FlOk.up (l : Le S H S' H') : ∀ {vs : List (Str × V)} {ps : List (Str × Pv)}, FlOk S H vs ps → FlOk S' H' vs ps
  | [], [], _ => trivial
  | [], _ :: _, h => False.elim h
  | _ :: _, [], h => False.elim h
  | _ :: _, P :: _, h => ⟨⟨h.1.1, P.2.up l h.1.2⟩, FlOk.up l h.2⟩
theorem FlOk.none {m : Str} : ∀ {vs : List (Str × V)} {ps : List (Str × Pv)}, FlOk S H vs ps → (ps.map (·.1)).contains m = false → vs.lookup m = none
  | [], [], _, _ => rfl
  | [], _ :: _, h, _ => False.elim h
  | _ :: _, [], h, _ => False.elim h
  | (n, v) :: vs, (n', P) :: ps, h, e => by
    have hn : n = n' := h.1.1
    rw [List.map_cons, List.contains_cons, Bool.or_eq_false_iff] at e
    rw [List.lookup_cons, hn, e.1]
    exact FlOk.none h.2 e.2
theorem FlOk.look {m : Str} {P : Pv} : ∀ {vs : List (Str × V)} {ps : List (Str × Pv)}, FlOk S H vs ps → ps.lookup m = some P → ∃ v, vs.lookup m = some v ∧ P.p S H v
  | [], [], _, e => by cases e
  | [], _ :: _, h, _ => False.elim h
  | _ :: _, [], h, _ => False.elim h
  | (n, v) :: vs, (n', P') :: ps, h, e => by
    have hn : n = n' := h.1.1
    subst hn
    rw [List.lookup_cons] at e ⊢
    split
    · next q => rw [q] at e; cases e; exact ⟨v, rfl, h.1.2⟩
    · next q => rw [q] at e; exact FlOk.look h.2 e
end
def pObj (C : Addr) (fs : List (Str × Pv)) : Pv := ⟨fun S H v => ∃ a dx vs, v = .ref a ∧ S a ∧ H a = some (.ins C dx vs) ∧ FlOk S H vs fs, fun l ⟨a, dx, vs, h1, h2, h3, h4⟩ => ⟨a, dx, vs, h1, l.fz a h2, l.ins h3 h2, h4.up l⟩⟩
def yKind (C : Addr) (_ : Unit) : Pv := pObj C []
instance {K : PySem.W.Frag} : HasTy K yInt "int" := ⟨fun x S H v h => h ▸ .base (.int x)⟩
instance {K : PySem.W.Frag} : HasTy K yStr "str" := ⟨fun x S H v h => h ▸ .base (.str x)⟩
instance {K : PySem.W.Frag} : HasTy K yBl "bool" := ⟨fun x S H v h => h ▸ .base (.bl x)⟩
instance {K : PySem.W.Frag} {κ α : Type} [DKey κ] {t : α → Pv} : HasTy K (fun d : List (κ × α) => yDct t d) "dict" := ⟨fun x S H v ⟨a, kvs, e, _, h, _⟩ => e ▸ h.elim (fun h => .base (.dK h)) fun ⟨z, h⟩ => .fDict h⟩
theorem ty_tup {K : PySem.W.Frag} {H : Hp} {a : Addr} {xs : List V} (h : SqT K H a xs) : TyX K H (.ref a) (.type "tuple") := by
  rcases h with (h | ⟨z, h⟩) | h
  · exact .base (.tup h)
  · exact .fTuple h
  · obtain ⟨o, its, n, h1, h2, _⟩ := h
    exact .kTuple h1 h2
instance {K : PySem.W.Frag} {α : Type} {t : α → Pv} : HasTy K (fun xs : List α => yTup K t xs) "tuple" := ⟨fun x S H v ⟨a, vs, e, h, _⟩ => e ▸ ty_tup h⟩
instance {K : PySem.W.Frag} {α β : Type} {t : α → Pv} {u : β → Pv} : HasTy K (yPr K t u) "tuple" := ⟨fun x S H v ⟨a, vs, e, h, _⟩ => e ▸ ty_tup h⟩
instance {K : PySem.W.Frag} {α β γ : Type} {t : α → Pv} {u : β → Pv} {w : γ → Pv} : HasTy K (yTr K t u w) "tuple" := ⟨fun x S H v ⟨a, vs, e, h, _⟩ => e ▸ ty_tup h⟩
instance {K : PySem.W.Frag} {α : Type} {t : α → Pv} : HasTy K (fun xs : List α => yLst K t xs) "list" := ⟨fun x S H v ⟨a, vs, e, h, _⟩ => e ▸ (by
  rcases h.1 with (h | ⟨z, h⟩) | ⟨o, its, n, h1, h2, _⟩
  · exact .base (.lst h)
  · exact .base (.frz h)
  · exact .kList h1 h2)⟩
section
variable {ρ : Type} {A : Nat → Addr} {E E' : L2.St → XK} {K : PySem.W.Frag} {Γ : Ctx} {c : Res ρ} {κ : Ctx → Vo → Res ρ → Prop} {P P' : Pv} {ps qs : List Pv} {α β : Type} {t : α → Pv} {td ty tx te ta tb : TE} {tr : TA} {Δ : Dl ρ} {i : Nat} {C : Addr}
theorem wx_makeP (h : κ Γ (.val (yKind C ())) c) : WX A E Γ (Sl.tMakeP C) c κ := fun F T S σ H Q O R hc k => fun x dx hx hd ne => by
  have R1 := R.new (o := .own x) hd
  have hx1 : upd H dx (.own x) x = none := by rw [upd_ne (Ne.symm ne)]; exact hx
  have R2 := R1.newF (o := .ins C dx []) hx1
  exact k _ _ _ h _ _ _ R2 ((le_new hd).trans (le_newF hx1)) ⟨x, dx, [], rfl, .inr rfl, upd_same, trivial⟩ hc
/-- o.m(..), o an object that does not change -/
theorem wx_meth {m : Str} {pre : List Ar → Cl → Prop} (h : WX A E Γ ta c fun Γ1 V c1 => ∃ fs, V = .val (pObj C fs) ∧ (fs.map (·.1)).contains m = false ∧ WA A E Γ1 tr c1 fun Γ2 gs c2 => RC A E (fun σ vs H Q => spM A pre vs H Q (E' σ)) (.val (pObj C fs) :: gs) Γ2 c2 κ) : WX A E Γ (Sl.tMethO C m (spM A pre) [] E' ta tr) c κ := fun F T S σ H Q O R hc k => by
  refine h F T S σ H _ O R hc fun Γ1 V c1 h1 S1 H1 x R1 l1 p1 hc1 => ?_
  obtain ⟨fs, rfl, hm, h1⟩ := h1
  obtain ⟨a, dx, vs, rfl, hs, ha, hf⟩ := p1
  refine ⟨a, dx, vs, rfl, ha, hf.none hm, h1 F T S1 σ H1 _ O R1 hc1 fun Γ2 gs c2 h2 S2 H2 ws R2 l2 p2 hc2 => ?_⟩
  show spM A pre ((.ref a :: ws) ++ []) H2 Q (E' σ)
  rw [List.append_nil]
  exact h2 F T S2 σ H2 _ Q O R2 hc2 ⟨⟨a, dx, vs, rfl, l2.fz a hs, l2.ins ha hs, hf.up l2⟩, p2⟩ fun Γ' V c' q S' H' v R' l => k Γ' V c' q S' H' v R' ((l1.trans l2).trans l)
/-! ### lists that are owned -/
theorem psnoc_of {xs : List α} {y : α} {k : List α → Res ρ} {T : Res ρ → Prop} (nb : ¬ T .bad) (h : T ((psnoc xs y).bind k)) : xs.length < 100000 ∧ T (k (xs ++ [y])) := by
  unfold psnoc at h
  by_cases z : xs.length < 100000
  · rw [if_pos z] at h; exact ⟨z, h⟩
  · rw [if_neg z] at h; exact absurd h nb
/-- xs.append(e): the list is i's own; e may change what is held -/
theorem ws_append (t : α → Pv) {b : Bool} {xs0 : List α} (hg : Γ[i]? = some (.own b (wLst K t xs0))) (h : WX A E Γ te c fun Γ1 V c1 => ∃ b xs y k, V = .val (t y) ∧ Γ1[i]? = some (.own b (wLst K t xs)) ∧ c1 = (psnoc xs y).bind k ∧ ∀ zs, Δ.nx (Γ1.set i (.own b (wLst K t zs))) (k zs)) :
    WS A E Γ (tDrop (tBM K "list" rAppend (tVar i) (tCons te tNil))) c Δ := fun F T S σ H D O R hc d => by
  obtain ⟨a, o, e1, e2, ⟨vs, rfl, e3, _⟩, e4, e5, _⟩ := R.own i b _ hg
  refine ⟨_, e1, .inl ⟨rfl, vs, .inl (.inl e2)⟩, ?_⟩
  refine h F T S σ H _ (O σ) R hc fun Γ1 V c1 h1 S1 H1 x R1 l1 p1 hc1 => ?_
  obtain ⟨b', xs, y, k, rfl, hg1, rfl, h1⟩ := h1
  obtain ⟨hl, hT⟩ := psnoc_of (O σ).nb hc1
  obtain ⟨a', o, w1, w2, ⟨ws, rfl, w3, w4⟩, w5, w6, _⟩ := R1.own i b' _ hg1
  rw [e1] at w1; cases w1
  have hlen : ws.length = xs.length := by have := w3.length; rwa [List.length_map] at this
  have lm := le_mut (o' := .lst (ws ++ [x])) w2 w5 rfl
  have hw : (wLst K t (xs ++ [y])).w S1 (upd H1 a (.lst (ws ++ [x]))) (.lst (ws ++ [x])) := ⟨_, rfl, by rw [List.map_append]; exact (w3.snoc p1).up lm, sz (by rw [List.length_append]; simp; omega)⟩
  obtain ⟨l2, R2⟩ := R1.mut (O' := wLst K t (xs ++ [y])) (o' := .lst (ws ++ [x])) hg1 e1 fun _ _ _ => hw
  exact ⟨a, ws, x, rfl, rfl, w2, szl (by omega), d.nx _ _ (h1 _) S1 σ _ R2 (l1.trans l2) hT⟩
/-- xs[k] = e, the list is i's own -/
theorem pset_of {xs : List α} {z : Int} {y : α} {k : List α → Res ρ} {T : Res ρ → Prop} (nb : ¬ T .bad) (h : T ((pset xs z y).bind k)) : ∃ j, ixN xs.length z = some j ∧ T (k (xs.set j y)) := by
  unfold pset at h
  cases e : ixN xs.length z with
  | none => rw [e] at h; exact absurd h nb
  | some j => rw [e] at h; exact ⟨j, rfl, h⟩
theorem ws_lset (t : α → Pv) (h : WX A E Γ te c fun Γ1 V c1 => ∃ y, V = .val (t y) ∧ (∃ b O, Γ1[i]? = some (.own b O)) ∧ WX A E Γ1 ty c1 fun Γ2 V2 c2 => ∃ b xs z k, V2 = .val (yInt z) ∧ Γ2[i]? = some (.own b (wLst K t xs)) ∧ c2 = (pset xs z y).bind k ∧ ∀ zs, Δ.nx (Γ2.set i (.own b (wLst K t zs))) (k zs)) :
    WS A E Γ (tAsg te (gSub (tVar i) ty rSetL)) c Δ := fun F T S σ H D O R hc d => by
  refine h F T S σ H _ (O σ) R hc fun Γ1 V c1 h1 S1 H1 x R1 l1 p1 hc1 => ?_
  obtain ⟨y, rfl, ⟨b0, O0, hg0⟩, h1⟩ := h1
  obtain ⟨a0, o0, e0, _⟩ := R1.own i b0 _ hg0
  refine ⟨_, e0, ?_⟩
  refine h1 F T S1 σ H1 _ (O σ) R1 hc1 fun Γ2 V c2 h2 S2 H2 w R2 l2 p2 hc2 => ?_
  obtain ⟨b', xs, z, k, rfl, hg1, rfl, h2⟩ := h2
  obtain ⟨j, hj, hT⟩ := pset_of (O σ).nb hc2
  obtain ⟨a', o, w1, w2, ⟨ws, rfl, w3, w4⟩, w5, w6, _⟩ := R2.own i b' _ hg1
  rw [e0] at w1; cases w1
  have hlen : ws.length = xs.length := by have := w3.length; rwa [List.length_map] at this
  have lm := le_mut (o' := .lst (ws.set j x)) w2 w5 rfl
  have hw : (wLst K t (xs.set j y)).w S2 (upd H2 a0 (.lst (ws.set j x))) (.lst (ws.set j x)) := ⟨_, rfl, by rw [List.map_set]; exact (w3.set j ((t y).up l2 p1)).up lm, by rw [List.length_set]; exact w4⟩
  obtain ⟨l3, R3⟩ := R2.mut (O' := wLst K t (xs.set j y)) (o' := .lst (ws.set j x)) hg1 e0 fun _ _ _ => hw
  exact ⟨a0, ws, z, j, rfl, p2, w2, by rw [hlen]; exact hj, d.nx _ _ (h2 _) S2 σ _ R3 ((l1.trans l2).trans l3) hT⟩
/-! reads of what is owned: afterwards it is owned still -/
def frzC : Ctx → Ctx
  | [] => []
  | .own _ O :: Γ => .val O.pv :: frzC Γ
  | x :: Γ => x :: frzC Γ
theorem frzC_len : ∀ Γ : Ctx, (frzC Γ).length = Γ.length
  | [] => rfl
  | .own _ _ :: Γ => congrArg Nat.succ (frzC_len Γ)
  | .any :: Γ => congrArg Nat.succ (frzC_len Γ)
  | .val _ :: Γ => congrArg Nat.succ (frzC_len Γ)
theorem frzC_at : ∀ {Γ : Ctx} {i : Nat} {x : Slt}, (frzC Γ)[i]? = some x → (∃ b O, Γ[i]? = some (.own b O) ∧ x = .val O.pv) ∨ (Γ[i]? = some x ∧ ∀ b O, x ≠ .own b O)
  | [], _, _, h => by simp [frzC] at h
  | .own b O :: Γ, 0, x, h => by simp only [frzC, List.getElem?_cons_zero] at h; cases h; exact .inl ⟨b, O, rfl, rfl⟩
  | .any :: Γ, 0, x, h => by simp only [frzC, List.getElem?_cons_zero] at h; cases h; exact .inr ⟨rfl, fun _ _ z => nomatch z⟩
  | .val _ :: Γ, 0, x, h => by simp only [frzC, List.getElem?_cons_zero] at h; cases h; exact .inr ⟨rfl, fun _ _ z => nomatch z⟩
  | .own _ _ :: Γ, i + 1, x, h => frzC_at (Γ := Γ) (i := i) (by simpa [frzC] using h)
  | .any :: Γ, i + 1, x, h => frzC_at (Γ := Γ) (i := i) (by simpa [frzC] using h)
  | .val _ :: Γ, i + 1, x, h => frzC_at (Γ := Γ) (i := i) (by simpa [frzC] using h)
theorem Rel.peek {F : Fr} {S : Fz} {σ : L2.St} {H : Hp} (R : Rel F Γ S σ H) : Rel (F.at (fun a => S a ∨ Held Γ σ a) H fun _ => False) (frzC Γ) (fun a => S a ∨ Held Γ σ a) σ H := by
  have l : Le S H (fun a => S a ∨ Held Γ σ a) H := .ex (fun _ h => .inl h) (fun _ _ h _ => h)
  refine ⟨⟨fun _ _ h _ => h, fun _ h => .inl h, fun _ h => h, fun _ h => h, fun a h => h.elim (R.fr.sd a) fun z => z.dom R⟩, R.len.trans (frzC_len Γ).symm, fun i P h => ?_, fun i b O h => ?_, fun i j b b' O O' a h => ?_⟩
  · rcases frzC_at h with ⟨b, O, h1, h2⟩ | ⟨h1, _⟩
    · cases h2
      obtain ⟨a, o, e1, e2, e3, _⟩ := R.own i b O h1
      exact ⟨_, e1, O.to (.inr ⟨i, b, O, h1, e1⟩) e2 (O.up l e3)⟩
    · obtain ⟨v, e, hv⟩ := R.val i P h1
      exact ⟨v, e, P.up l hv⟩
  · rcases frzC_at h with ⟨_, _, _, h2⟩ | ⟨_, h2⟩
    · cases h2
    · exact absurd rfl (h2 b O)
  · rcases frzC_at h with ⟨_, _, _, h2⟩ | ⟨_, h2⟩
    · cases h2
    · exact absurd rfl (h2 b O)
theorem Rel.unpeek {F : Fr} {S S' : Fz} {σ : L2.St} {H H' : Hp} (R : Rel F Γ S σ H) (f : FrOk (F.at (fun a => S a ∨ Held Γ σ a) H fun _ => False) S' H') : Rel F Γ S σ H' ∧ Le S H S H' := by
  have l : Le S H S H' := .ex (fun _ h => h) fun a o h _ => f.kp a o h fun z => z
  refine ⟨R.move l (fun a o h _ => f.kp a o h fun z => z) (fun a h => .inl h) (fun a h => f.dm a (R.fr.sd a h)) (fun a h => f.dm a h) fun i b O a o _ _ h1 h2 => ⟨o, f.kp a o h1 fun z => z, O.up l h2⟩, l⟩
/-- a value that no list stands in -/
def Imm (P : Pv) : Prop := ∀ S S' H v, P.p S H v → P.p S' H v
theorem wx_peek (h : WX A E (frzC Γ) te c fun Γ' V c' => ∃ P, V = .val P ∧ Imm P ∧ κ Γ (.val P) c') : WX A E Γ te c κ := fun F T S σ H Q O R hc k => by
  refine h _ T _ σ H _ ⟨O.nb, fun e z S' H' f => O.er e z S' H' ?_⟩ R.peek hc fun Γ' V c' q S' H' v R' l hv hc' => ?_
  · refine ⟨fun a o h n => f.kp a o (R.fr.kp a o h n) fun z => z, fun a h => ?_, fun a h => f.le a (.inl (R.fr.le a h)), fun a h => f.dm a (R.fr.dm a h), f.sd⟩
    rcases f.fz a h with h | h | h
    · exact h.elim (R.fr.fz a) fun h => (R.hI a h).elim (fun z => .inr (.inr z)) fun z => .inr (.inl z)
    · exact .inr (.inl (R.fr.fresh h))
    · exact h.elim
  · obtain ⟨P, rfl, im, q⟩ := q
    obtain ⟨R2, l2⟩ := R.unpeek R'.fr
    exact k _ _ _ q S H' v R2 l2 (im _ _ _ _ hv) hc'
theorem imm_int {i : Int} : Imm (yInt i) := fun _ _ _ _ h => h
/-! ### raise, try -/
theorem ws_raise0 {s : TS} {n : Nat} (hE : ∀ D σ H, E σ (.ref (A n)) none H → s D σ H) (hc : c = .err ⟨n, .no⟩) : WS A E Γ s c Δ := fun F T S σ H D O R hT d => by
  subst hc
  exact hE D σ H ((O σ).er _ hT S H R.fr)
/-! ### dicts -/
theorem wx_dnew (h : κ Γ (.own (oDct [])) c) : WX A E Γ tDNewK c κ := fun F T S σ H Q O R hc k => fun p hp => k _ _ _ h S _ _ (R.new hp) (le_new hp) (isOwn R hp ⟨[], rfl, trivial, Nat.zero_le _⟩) hc
section
variable {κ' : Type} [DecidableEq κ'] {tk : κ' → Pv} [KV : KeyV κ' tk]
theorem pdget_of {d : List (κ' × α)} {x : κ'} {k : α → Res ρ} {T : Res ρ → Prop} (nb : ¬ T .bad) (h : T ((pdget d x).bind k)) : ∃ y, dlook d x = some y ∧ T (k y) := by
  unfold pdget at h
  cases e : dlook d x with
  | none => rw [e] at h; exact absurd h nb
  | some y => rw [e] at h; exact ⟨y, rfl, h⟩
theorem wx_dget (h : WX A E Γ td c fun Γ1 V c1 => ∃ d : List (κ' × α), V = .val (yDct t d) ∧ WX A E Γ1 ty c1 fun Γ2 V2 c2 => ∃ x k, V2 = .val (tk x) ∧ c2 = (pdget d x).bind k ∧ ∀ y, κ Γ2 (.val (t y)) (k y)) : WX A E Γ (tDGet td ty) c κ := fun F T S σ H Q O R hc kk => by
  refine h F T S σ H _ O R hc fun Γ1 V c1 h1 S1 H1 v R1 l1 p1 hc1 => ?_
  obtain ⟨d, rfl, h1⟩ := h1
  refine h1 F T S1 σ H1 _ O R1 hc1 fun Γ2 V c2 h2 S2 H2 w R2 l2 p2 hc2 => ?_
  obtain ⟨x, k, rfl, rfl, h2⟩ := h2
  obtain ⟨y, hy, hT⟩ := pdget_of O.nb hc2
  obtain ⟨a, kvs, rfl, hs, hr, hk, hl⟩ := (yDct t d).up l2 p1
  obtain ⟨v, e, hp⟩ := (hk.look (k := x)).1 y hy
  have ew := KV.is _ _ _ _ p2
  subst ew
  exact ⟨a, v, rfl, .inl ⟨kvs, _, hr, rfl, e.symm⟩, kk _ _ _ (h2 y) S2 H2 v R2 (l1.trans l2) hp hT⟩
/-- d.get(k, x) -/
theorem wx_dget2 (h : WX A E Γ td c fun Γ1 V c1 => ∃ d : List (κ' × α), V = .val (yDct t d) ∧ WX A E Γ1 ty c1 fun Γ2 V2 c2 => ∃ x, V2 = .val (tk x) ∧ WX A E Γ2 tx c2 fun Γ3 V3 c3 => ∃ y, V3 = .val (t y) ∧ κ Γ3 (.val (t (dgetD d x y))) c3) : WX A E Γ (tDGet2 td ty tx) c κ := fun F T S σ H Q O R hc kk => by
  refine h F T S σ H _ O R hc fun Γ1 V c1 h1 S1 H1 v R1 l1 p1 hc1 => ?_
  obtain ⟨d, rfl, h1⟩ := h1
  have p1' := p1
  obtain ⟨a, kvs, rfl, hs, hr, hk, hl⟩ := p1
  refine ⟨a, rfl, .inl ⟨kvs, hr⟩, ?_⟩
  refine h1 F T S1 σ H1 _ O R1 hc1 fun Γ2 V c2 h2 S2 H2 w R2 l2 p2 hc2 => ?_
  obtain ⟨x, rfl, h2⟩ := h2
  refine h2 F T S2 σ H2 _ O R2 hc2 fun Γ3 V c3 h3 S3 H3 z R3 l3 p3 hc3 => ?_
  obtain ⟨y, rfl, h3⟩ := h3
  obtain ⟨a', kvs', e, hs', hr', hk', hl'⟩ := (yDct t d).up (l2.trans l3) p1'
  cases e
  have ew := KV.is _ _ _ _ ((tk x).up l3 p2)
  subst ew
  refine ⟨_, .inl ⟨kvs', _, hr', rfl, rfl⟩, ?_⟩
  obtain ⟨q1, q2⟩ := hk'.look (k := x)
  have l := (l1.trans l2).trans l3
  cases e : dlook d x with
  | none =>
    rw [q2 e]
    exact kk _ _ _ h3 S3 H3 z R3 l (by unfold dgetD; rw [e]; exact p3) hc3
  | some u =>
    obtain ⟨v, e', hp⟩ := q1 u e
    rw [e']
    exact kk _ _ _ h3 S3 H3 v R3 l (by unfold dgetD; rw [e]; exact hp) hc3
/-- d[k] = v, d the slot's own -/
theorem pdput_of {d : List (κ' × α)} {x : κ'} {y : α} {k : List (κ' × α) → Res ρ} {T : Res ρ → Prop} (nb : ¬ T .bad) (h : T ((pdput d x y).bind k)) : d.length < 100000 ∧ T (k (dput d x y)) := by
  unfold pdput at h
  by_cases z : d.length < 100000
  · rw [if_pos z] at h; exact ⟨z, h⟩
  · rw [if_neg z] at h; exact absurd h nb
theorem putK_len {kvs : List (Key × V)} {k : Key} {v : V} : (putK kvs k v).length ≤ kvs.length + 1 := by
  unfold putK
  split
  · rw [List.length_map]; omega
  · rw [List.length_append]; simp
theorem ws_dput (h : WX A E Γ te c fun Γ1 V1 c1 => ∃ y, V1 = .val (t y) ∧ (∃ b O, Γ1[i]? = some (.own b O)) ∧ WX A E Γ1 ty c1 fun Γ2 V2 c2 => ∃ b x k, ∃ d : List (κ' × α), V2 = .val (tk x) ∧ Γ2[i]? = some (.own b (wDct t d)) ∧ c2 = (pdput d x y).bind k ∧ ∀ d', Δ.nx (Γ2.set i (.own b (wDct t d'))) (k d')) :
    WS A E Γ (sDPut (tVar i) ty te) c Δ := fun F T S σ H D O R hc dd => by
  refine h F T S σ H _ (O σ) R hc fun Γ1 V c1 h1 S1 H1 v R1 l1 p1 hc1 => ?_
  obtain ⟨y, rfl, ⟨b0, O0, hg0⟩, h1⟩ := h1
  obtain ⟨a0, o0, e0, _⟩ := R1.own i b0 _ hg0
  refine ⟨_, e0, ?_⟩
  refine h1 F T S1 σ H1 _ (O σ) R1 hc1 fun Γ2 V c2 h2 S2 H2 w R2 l2 p2 hc2 => ?_
  obtain ⟨b, x, k, d, rfl, hg, rfl, h2⟩ := h2
  obtain ⟨hl, hT⟩ := pdput_of (O σ).nb hc2
  obtain ⟨a, o, w1, w2, ⟨kvs, rfl, w3, w4⟩, w5, w6, _⟩ := R2.own i b _ hg
  rw [e0] at w1; cases w1
  have ew := KV.is _ _ _ _ p2
  subst ew
  have hlen : kvs.length = d.length := by rw [w3.len, kpl, List.length_map]
  have lm := le_mut (o' := .dK (putK kvs (KV.ky x) v)) w2 w5 rfl
  have hw : (wDct t (dput d x y)).w S2 (upd H2 a0 (.dK (putK kvs (KV.ky x) v))) (.dK (putK kvs (KV.ky x) v)) := ⟨_, rfl, (w3.put ((t y).up l2 p1)).up lm, by have := putK_len (kvs := kvs) (k := KV.ky x) (v := v); exact Nat.le_trans this (sz (by omega))⟩
  obtain ⟨l3, R3⟩ := R2.mut (O' := wDct t (dput d x y)) (o' := .dK (putK kvs (KV.ky x) v)) hg e0 fun _ _ _ => hw
  exact ⟨a0, _, rfl, DPut.k w2 (szl (by omega)), dd.nx _ _ (h2 _) S2 σ _ R3 ((l1.trans l2).trans l3) hT⟩
end
/-! min, max with a default -/
theorem rc_minD {xs : List Int} {d : Int} {tk : TA} (h : WA A E Γ tr c fun Γ1 gs c1 => gs = [.val (yLst K yInt xs)] ∧ WA A E Γ1 tk c1 fun Γ2 hs c2 => hs = [.val (yInt d)] ∧ κ Γ2 (.val (yInt (pminD xs d))) c2) : WX A E Γ (fun σ H Q => tr σ H fun vs H1 => tk σ H1 fun zs H2 => Sl.rmind K vs zs H2 Q) c κ := fun F T S σ H Q O R hc k => by
  refine h F T S σ H _ O R hc fun Γ1 gs c1 h1 S1 H1 vs R1 l1 p1 hc1 => ?_
  obtain ⟨rfl, h1⟩ := h1
  refine h1 F T S1 σ H1 _ O R1 hc1 fun Γ2 hs c2 h2 S2 H2 zs R2 l2 p2 hc2 => ?_
  obtain ⟨rfl, h2⟩ := h2
  obtain ⟨v, rfl, hv⟩ := ag1 (p1.up l2)
  obtain ⟨z, rfl, hz⟩ := ag1 p2
  obtain ⟨a, ws, rfl, hs, hw, hl⟩ := hv
  have e := ints_of hw
  subst e
  cases hz
  have l := l1.trans l2
  refine ⟨a, xs, _, rfl, rfl, hs.1, fun e => ?_, fun e m hm hle => ?_⟩
  · subst e; exact k _ _ _ h2 S2 H2 _ R2 l rfl hc2
  · cases xs with
    | nil => exact absurd rfl e
    | cons x r =>
      obtain ⟨q1, q2⟩ := foldl_min x r
      have e : m = r.foldl min x := Int.le_antisymm (hle _ q1) (q2 m hm)
      subst e
      exact k _ _ _ h2 S2 H2 _ R2 l rfl hc2
end
end Mi
namespace Mi
open PySem PySem.Spec PyProof.Rows L2
open Sl (isTup sz szl slt)
theorem kpl_keys {κ α : Type} [DKey κ] {t : α → Pv} {d : List (κ × α)} : (kpl t d).map (·.1) = (dkeys d).map DKey.ky := by simp [kpl, dkeys]
theorem kpl_keysS {α : Type} {t : α → Pv} {d : List (Str × α)} : (kpl t d).map (·.1) = (dkeys d).map Sum.inr := by simp [kpl, dkeys, DKey.ky]
section
variable {ρ : Type} {A : Nat → Addr} {E E' : L2.St → XK} {K : PySem.W.Frag} {Γ : Ctx} {c : Res ρ} {κ : Ctx → Vo → Res ρ → Prop} {pre : List Ar → Cl → Prop} {gs : List Ag} {ps : List Pv} {t : TE} {tr : TA}
/-- a list, a tuple as either -/
theorem wx_toSeqL (h : WX A E Γ t c fun Γ' V c' => ∃ ps, V = .val (pLst K ps) ∧ κ Γ' (.val (pSeq K ps)) c') : WX A E Γ t c κ := fun F T S σ H Q O R hc k =>
  h F T S σ H Q O R hc fun Γ' V c' ⟨ps, e, q⟩ S' H' v R' l hv => k Γ' _ c' q S' H' v R' l (by subst e; exact .inl hv)
theorem wx_toSeqT (h : WX A E Γ t c fun Γ' V c' => ∃ ps, V = .val (pTup K ps) ∧ κ Γ' (.val (pSeq K ps)) c') : WX A E Γ t c κ := fun F T S σ H Q O R hc k =>
  h F T S σ H Q O R hc fun Γ' V c' ⟨ps, e, q⟩ S' H' v R' l hv => k Γ' _ c' q S' H' v R' l (by subst e; exact .inr hv)
/-- def f(.., *v) -/
theorem ags_split {σ : L2.St} {S : Fz} {H : Hp} : ∀ {gs : List Ag} {vs : List V} {ps : List Pv}, AgsOk σ S H vs (gs ++ vals ps) → ∃ ws rest, vs = ws ++ rest ∧ ws.length = gs.length ∧ AgsOk σ S H ws gs ∧ PsOk S H rest ps
  | [], vs, ps, h => ⟨[], vs, rfl, rfl, trivial, h.pvs⟩
  | g :: gs, [], ps, h => False.elim h
  | g :: gs, v :: vs, ps, h => by
    obtain ⟨ws, rest, e1, e2, e3, e4⟩ := ags_split (gs := gs) h.2
    exact ⟨v :: ws, rest, by rw [e1]; rfl, congrArg Nat.succ e2, ⟨h.1, e3⟩, e4⟩
theorem AgsOk.snoc {σ : L2.St} {S : Fz} {H : Hp} {v : V} {g : Ag} : ∀ {vs : List V} {gs : List Ag}, AgsOk σ S H vs gs → g.is σ S H v → AgsOk σ S H (vs ++ [v]) (gs ++ [g])
  | [], [], _, h => ⟨h, trivial⟩
  | [], _ :: _, h, _ => False.elim h
  | _ :: _, [], h, _ => False.elim h
  | _ :: _, _ :: _, h, k => ⟨h.1, AgsOk.snoc h.2 k⟩
theorem rc_star (gs : List Ag) (hl : ps.length ≤ 1000) (h : RC A E (fun σ vs H Q => spM A pre vs H Q (E' σ)) (gs ++ [.val (pTup K ps)]) Γ c κ) : RC A E (fun σ vs H Q => Sl.star gs.length (spM A pre) vs H Q (E' σ)) (gs ++ vals ps) Γ c κ := fun F T S σ H vs Q O R hc hg k => by
  obtain ⟨ws, rest, rfl, e2, e3, e4⟩ := ags_split hg
  have hz : rest.length ≤ sizeLine := sz (by rw [e4.length]; omega)
  exact ⟨ws, rest, rfl, e2, hz, fun p hp => h F T S σ _ _ Q O (R.new hp) hc ((e3.up (le_new hp)).snoc ⟨p, rest, rfl, .inl (.inl upd_same), e4.up (le_new hp), hz⟩) fun Γ' V c' q S' H' v R' l => k Γ' V c' q S' H' v R' ((le_new hp).trans l)⟩
theorem wx_callF {E1 : XK} {n : Nat} (h : WA A E Γ tr c fun Γ1 gs c1 => RC A E (fun _ vs H Q => Sl.star n (spM A pre) vs H Q E1) gs Γ1 c1 κ) : WX A E Γ (fun σ H Q => tr σ H fun vs H1 => Sl.star n (spM A pre) vs H1 Q E1) c κ := fun F T S σ H Q O R hc k => by
  refine h F T S σ H _ O R hc fun Γ1 gs c1 h1 S1 H1 xs R1 l1 p1 hc1 => ?_
  exact h1 F T S1 σ H1 xs Q O R1 hc1 p1 fun Γ' V c' q S' H' v R' l => k Γ' V c' q S' H' v R' (l1.trans l)
end
section
variable {A : Nat → Addr} {K : PySem.W.Frag}
theorem law_imp {f : List Int → Res Bool} {pre : List Ar → Cl → Prop} (hp : ∀ ns, pre [.val (yLst K yInt ns)] ⟨Bool, f ns, fun r => .val (yBl r), fun _ => []⟩) (hl : ∀ ns : List Int, ns.length ≤ 63 → f ns = .ok true) {vs : List V} {H : Hp} {Q : VK} {E : XK}
    (h : ∃ (a : Addr) (ns : List Int), vs = [.ref a] ∧ SqL K H a (ns.map V.int) ∧ ns.length ≤ 63 ∧ ∀ H', Q (.bl true) H') : spM A pre vs H Q E := by
  obtain ⟨a, ns, rfl, hs, hn, q⟩ := h
  have e := hl ns hn
  have key : ∀ S : Fz, LsF K S H a (ns.map V.int) → (∀ b, S b → H b ≠ none) → spM A pre [.ref a] H Q E := fun S h1 h2 => by
    refine ⟨S, _, _, hp ns, ⟨⟨a, _, rfl, h1, of_ints ns, sz (by rw [List.length_map]; omega)⟩, trivial⟩, List.nodup_nil, h2, by show f ns ≠ _; rw [e]; exact fun z => (nomatch z), fun r hr S' H' v _ _ hv => ?_, fun er z => ?_⟩
    · have hr : f ns = .ok r := hr
      rw [e] at hr; cases hr
      have hv : v = .bl true := hv
      rw [hv]; exact q H'
    · have z : f ns = .err er := z
      rw [e] at z; cases z
  rcases hs with hr | hk
  · refine key (fun b => b = a) ⟨.inl hr, .inl ⟨rfl, hr⟩⟩ fun b z => ?_
    subst z
    rcases hr with hr | ⟨o, hr⟩ <;> rw [hr] <;> exact fun z => nomatch z
  · exact key (fun _ => False) ⟨.inr hk, .inr fun H' => .inr hk⟩ fun _ z => z.elim
end
end Mi
namespace Mi
open PySem PySem.Spec PyProof.Rows L2
open Sl (isTup sz szl slt)
open NdefX (startF)
theorem ps_or2 {X : Cx} {st : Stmt} {t1 t2 : TS} (h1 : PS X st t1) (h2 : PS X st t2) : PS X st (fun D σ H => t1 D σ H ∨ t2 D σ H) :=
  ⟨fun pins s σ H D I h => h.elim (h1.run pins s σ H D I) (h2.run pins s σ H D I)⟩
section
variable {F : Fr} {Γ Γ' : Ctx} {S S' : Fz} {σ σ' : L2.St} {H H' : Hp} {d : Addr} {od : Obj} {u : HO}
theorem le_core (h : H d = some u) (e : ∀ w, core w = core u → core (.frz od u) = core w) (hn : ∀ C dx fs, u ≠ .ins C dx fs) (hf : (∀ z w, u ≠ .frz z w) ∧ ∀ xs, u ≠ .tup xs) : Le S H S (upd H d (.frz od u)) := ⟨fun _ h => h, fun a o ha _ => by
  by_cases z : a = d
  · subst z
    rw [h] at ha; cases ha
    exact ⟨_, upd_same, e u rfl⟩
  · exact ⟨o, by rw [upd_ne z]; exact ha, rfl⟩, fun a xs ha => by
  by_cases z : a = d
  · subst z
    rw [h] at ha; cases ha
    exact absurd rfl (hf.2 _)
  · rw [upd_ne z]; exact ha⟩
theorem core_frz {u : HO} (hn : ∀ C dx fs, u ≠ .ins C dx fs) (hf : ∀ z w, u ≠ .frz z w) : core (.frz od u) = core u := by
  cases u with
  | ins C dx fs => exact absurd rfl (hn _ _ _)
  | frz z w => exact absurd rfl (hf _ _)
  | _ => rfl
theorem le_lock (h : H d = some u) (hn : ∀ C dx fs, u ≠ .ins C dx fs) (hf : (∀ z w, u ≠ .frz z w) ∧ ∀ xs, u ≠ .tup xs) : Le S H S (upd H d (.frz od u)) := le_core h (fun w e => (core_frz hn hf.1).trans e.symm) hn hf
theorem le_unlock (h : H d = some (.frz od u)) (hn : ∀ C dx fs, u ≠ .ins C dx fs) (hf : (∀ z w, u ≠ .frz z w) ∧ ∀ xs, u ≠ .tup xs) : Le S H S (upd H d u) := ⟨fun _ h => h, fun a o ha _ => by
  by_cases z : a = d
  · subst z
    rw [h] at ha; cases ha
    exact ⟨_, upd_same, (core_frz hn hf.1).symm⟩
  · exact ⟨o, by rw [upd_ne z]; exact ha, rfl⟩, fun a xs ha => by
  by_cases z : a = d
  · subst z
    rw [h] at ha; cases ha
  · rw [upd_ne z]; exact ha⟩
/-- what is frozen at d is locked: a region -/
theorem Rel.lock (R : Rel F Γ S σ H) (h : H d = some u) (hs : S d) (hn : ∀ C dx fs, u ≠ .ins C dx fs) (hf : (∀ z w, u ≠ .frz z w) ∧ ∀ xs, u ≠ .tup xs) : Rel (F.at S (upd H d (.frz od u)) (Held Γ σ)) Γ S σ (upd H d (.frz od u)) := by
  have l : Le S H S (upd H d (.frz od u)) := le_lock h hn hf
  refine ⟨⟨fun _ _ h _ => h, fun _ h => .inl h, fun _ h => h, fun _ h => h, fun a h => upd_some (R.fr.sd a h)⟩, R.len, fun i P h => ?_, fun i b O e => ?_, R.sep⟩
  · obtain ⟨v, e, hv⟩ := R.val i P h
    exact ⟨v, e, P.up l hv⟩
  · obtain ⟨a, o, e1, e2, e3, e4, e5, e6⟩ := R.own i b O e
    exact ⟨a, o, e1, by rw [upd_ne (fun z => e4 (by rw [z]; exact hs))]; exact e2, O.up l e3, e4, .inl ⟨i, b, O, e, e1⟩, e6⟩
theorem Rel.unlock (R : Rel F Γ S σ H) (h : H d = some u) (hs : S d) (hn : ∀ C dx fs, u ≠ .ins C dx fs) (hf : (∀ z w, u ≠ .frz z w) ∧ ∀ xs, u ≠ .tup xs) (R' : Rel (F.at S (upd H d (.frz od u)) (Held Γ σ)) Γ' S' σ' H') : H' d = some (.frz od u) ∧ Le S' H' S' (upd H' d u) ∧ Rel F Γ' S' σ' (upd H' d u) := by
  have nh : ¬ Held Γ σ d := fun ⟨i, b, O, h1, h2⟩ => by
    obtain ⟨a, o, e1, e2, e3, e4, _⟩ := R.own i b O h1
    rw [h2] at e1; cases e1
    exact e4 hs
  have hd : H' d = some (.frz od u) := R'.fr.kp d _ upd_same nh
  have l : Le S' H' S' (upd H' d u) := le_unlock hd hn hf
  refine ⟨hd, l, ⟨⟨fun a o ha n => ?_, fun a ha => ?_, fun a ha => R'.fr.le a (R.fr.le a ha), fun a ha => upd_some (R'.fr.dm a (upd_some (R.fr.dm a ha))), fun a ha => upd_some (R'.fr.sd a ha)⟩, R'.len, fun i P e => ?_, fun i b O e => ?_, R'.sep⟩⟩
  · have ha' := R.fr.kp a o ha n
    by_cases z : a = d
    · subst z
      rw [h] at ha'; cases ha'
      exact upd_same
    · rw [upd_ne z]
      exact R'.fr.kp a o (by show upd H d _ a = _; rw [upd_ne z]; exact ha') fun w => (R.hI a w).elim n fun w => by rw [w] at ha; cases ha
  · rcases R'.fr.fz a ha with w | w | w
    · exact R.fr.fz a w
    · have w : upd H d (.frz od u) a = none := w
      refine .inr (.inl (R.fr.fresh ?_))
      by_cases z : a = d
      · subst z; rw [upd_same] at w; cases w
      · rw [upd_ne z] at w; exact w
    · exact (R.hI a w).elim (fun z => .inr (.inr z)) fun z => .inr (.inl z)
  · obtain ⟨v, e1, e2⟩ := R'.val i P e
    exact ⟨v, e1, P.up l e2⟩
  · obtain ⟨a, o, e1, e2, e3, e4, e5, e6⟩ := R'.own i b O e
    have z : a ≠ d := fun z => e4 (by rw [z]; exact R'.fr.le d hs)
    refine ⟨a, o, e1, by rw [upd_ne z]; exact e2, O.up l e3, e4, ?_, e6⟩
    rcases e5 with w | w
    · exact R.hI a w
    · have w : upd H d (.frz od u) a = none := w
      rw [upd_ne z] at w
      exact .inr (R.fr.fresh w)
end
section
variable {ρ : Type} {A : Nat → Addr} {E : L2.St → XK} {K : PySem.W.Frag} {Γ : Ctx} {c : Res ρ} {Δ : Dl ρ} {g : TG} {tb : TS} {i : Nat} {α : Type} {t : α → Pv}
variable {κ' : Type} {tk : κ' → Pv} [KV : KeyV κ' tk]
theorem itk_ok {F : Fr} {S : Fz} {H : Hp} {d : Addr} {o : Obj} {kvs : List (Key × V)} {dd : List (κ' × α)} (hk : ∀ k S H, (tk k).p S H (kV (KV.ky k))) (h0 : F.H0 d = some (.frz o (.dK kvs))) (hI : ¬ F.I d) (hp : KpOk S H kvs (kpl t dd)) (hl : kvs.length ≤ sizeLine) : ItOk F (Itk d o kvs) ((dkeys dd).map tk) S H := by
  have e : ((dkeys dd).map tk).length = kvs.length := by rw [hp.len, kpl, dkeys, List.length_map, List.length_map, List.length_map]
  refine ⟨by rw [e]; exact hl, fun S1 H1 l f => ?_⟩
  have hd := f.kp d _ h0 hI
  have w := walk_keys (d := d) (o := o) (kvs := kvs)
  rw [e]
  refine ⟨fun j hj => w.goes j H1 hj hd, w.stops H1 hd, fun j x H' hj y => ?_⟩
  obtain ⟨rfl, k, v, h1, rfl⟩ := w.yields j H1 x H' hj hd y
  have ek : kvs.map (·.1) = (dkeys dd).map KV.ky := hp.keys.trans kpl_keys
  have q := congrArg (fun l => l[j]?) ek
  simp only [List.getElem?_map, h1, Option.map_some] at q
  obtain ⟨k', q1, q2⟩ := Option.map_eq_some_iff.mp q.symm
  refine ⟨tk k', by rw [List.getElem?_map, q1]; rfl, .inl rfl, ?_⟩
  rw [← q2]; exact hk k' _ _
theorem ndk {kvs : List (Key × V)} : (∀ C dx fs, HO.dK kvs ≠ .ins C dx fs) ∧ (∀ z w, HO.dK kvs ≠ .frz z w) ∧ ∀ xs, HO.dK kvs ≠ .tup xs := ⟨(fun _ _ _ e => nomatch e), (fun _ _ e => nomatch e), fun _ e => nomatch e⟩
theorem is_unlock {F : Fr} {Γ Γ' : Ctx} {S S' : Fz} {σ σ' : L2.St} {H H' : Hp} {d : Addr} {od : Obj} {u : HO} {V : Vo} {v : L2.V} (R : Rel F Γ S σ H) (h : H d = some u) (hs : S d) (hn : ∀ C dx fs, u ≠ .ins C dx fs) (hf : (∀ z w, u ≠ .frz z w) ∧ ∀ xs, u ≠ .tup xs) (R' : Rel (F.at S (upd H d (.frz od u)) (Held Γ σ)) Γ' S' σ' H') (hv : V.is (F.at S (upd H d (.frz od u)) (Held Γ σ)) Γ' σ' S' H' v) : V.is F Γ' σ' S' (upd H' d u) v := by
  obtain ⟨q1, q2, q3⟩ := R.unlock h hs hn hf R'
  cases V with
  | val P => exact P.up q2 hv
  | own O =>
    obtain ⟨a, o, rfl, e2, e3, e4, e5, e6⟩ := hv
    have z : a ≠ d := fun z => e4 (by rw [z]; exact R'.fr.le d hs)
    refine ⟨a, o, rfl, by rw [upd_ne z]; exact e2, O.up q2 e3, e4, ?_, e6⟩
    rcases e5 with w | w
    · exact R.hI a w
    · have w : upd H d (.frz od u) a = none := w
      rw [upd_ne z] at w
      exact .inr (R.fr.fresh w)
theorem is_leave {F : Fr} {Γ Γ' : Ctx} {S S' : Fz} {σ σ' : L2.St} {H H' : Hp} {V : Vo} {v : L2.V} (R : Rel F Γ S σ H) (hv : V.is (F.at S H (Held Γ σ)) Γ' σ' S' H' v) : V.is F Γ' σ' S' H' v := by
  cases V with
  | val P => exact hv
  | own O =>
    obtain ⟨a, o, rfl, e2, e3, e4, e5, e6⟩ := hv
    exact ⟨a, o, rfl, e2, e3, e4, e5.elim (R.hI a) fun w => .inr (R.fr.fresh w), e6⟩
theorem ws_forDF {μ τ : Type} {f : μ → κ' → Res (Fl μ τ)} (Γs : μ → Ctx) (dd : List (κ' × α)) (hk : ∀ k S H, (tk k).p S H (kV (KV.ky k))) (hg : Γ[i]? = some (.val (yDct t dd))) {s0 : μ} {k : μ → Res ρ} {jr : τ → Res ρ} (hc : c = (pfor f s0 (dkeys dd)).thn k jr) (sb : Sub Γ (Γs s0))
      (hb : ∀ s x, WG (Γs s) g (tk x) fun Γ2 => WS A ET Γ2 tb (f s x) ⟨fun Γ' c' => ∃ s', c' = .ok (.nx s') ∧ Sub Γ' (Γs s'), fun Γ' V c' => ∃ r, c' = .ok (.rt r) ∧ Δ.rt Γ' V (jr r), fun Γ' c' => ∃ s', c' = .ok (.br s') ∧ Sub Γ' (Γs s'), fun Γ' c' => ∃ s', c' = .ok (.nx s') ∧ Sub Γ' (Γs s')⟩) (hd : ∀ s, Δ.nx (Γs s) (k s)) :
    WS A E Γ (fun D σ H => tLock (tFor (iKeys (tVar i)) g tb) D σ H ∨ tFor (iKeys (tVar i)) g tb D σ H) c Δ := fun F T S σ H D O R hT d => by
  subst hc
  obtain ⟨v, e, a, kvs, rfl, hs, hr, hp, hl⟩ := R.val i _ hg
  have nh : ¬ Held Γ σ a := fun ⟨j, b, O', h1, h2⟩ => by
    obtain ⟨a', o, e1, e2, e3, e4, _⟩ := R.own j b O' h1
    rw [h2] at e1; cases e1
    exact e4 hs
  rcases hr with hr | ⟨z, hr⟩
  · refine .inl ⟨a, .dK kvs, hr, trivial, fun od => ?_⟩
    have RL := R.lock (od := od) hr hs ndk.1 ndk.2
    have l : Le S H S (upd H a (.frz od (.dK kvs))) := le_lock hr ndk.1 ndk.2
    refine ⟨_, e, a, od, rfl, .inl ⟨kvs, upd_same, ?_⟩⟩
    refine for_coreF (E := ET) (fun σ => ⟨(O σ).nb, fun e z S' H' f => erT A⟩) RL hT (itk_ok hk upd_same nh (hp.up l) hl) sb hb (fun s S2 σ2 H2 R2 l2 hc2 => ?_) fun Γ' V c' q S' σ' H' v R' l' hv hc' => ?_
    · obtain ⟨q1, q2, q3⟩ := R.unlock hr hs ndk.1 ndk.2 R2
      exact ⟨q1, d.nx _ _ (hd s) S2 σ2 _ q3 ((l.trans l2).trans q2) hc2⟩
    · obtain ⟨q1, q2, q3⟩ := R.unlock hr hs ndk.1 ndk.2 R'
      exact ⟨q1, d.rt _ _ _ q S' σ' _ v q3 ((l.trans l').trans q2) (is_unlock R hr hs ndk.1 ndk.2 R' hv) hc'⟩
  · refine .inr ⟨_, e, a, z, rfl, .inl ⟨kvs, hr, ?_⟩⟩
    refine for_coreF (E := ET) (fun σ => ⟨(O σ).nb, fun e z S' H' f => erT A⟩) R.enter hT (itk_ok hk hr nh hp hl) sb hb (fun s S2 σ2 H2 R2 l2 hc2 => ?_) fun Γ' V c' q S' σ' H' v R' l' hv hc' => ?_
    · exact d.nx _ _ (hd s) S2 σ2 _ (R.leave R2) l2 hc2
    · exact d.rt _ _ _ q S' σ' _ v (R.leave R') l' (is_leave R hv) hc'
end
/-! ### a new object handed to a def that changes it -/
section
variable {ρ : Type} {A : Nat → Addr} {E : L2.St → XK} {E1 : XK} {K : PySem.W.Frag} {Γ : Ctx} {c : Res ρ} {κ : Ctx → Vo → Res ρ → Prop} {pre : List Ar → Cl → Prop} {te : TE} {tr : TA}
theorem ars_vals {S : Fz} {H : Hp} {σ : L2.St} : ∀ {vs : List V} {ps : List Pv}, AgsOk σ S H vs (vals ps) → ArsOk S H vs (ps.map Ar.val) ∧ ioAd vs (ps.map Ar.val) = []
  | [], [], _ => ⟨trivial, rfl⟩
  | [], _ :: _, h => False.elim h
  | _ :: _, [], h => False.elim h
  | v :: vs, P :: ps, h => by
    obtain ⟨q1, q2⟩ := ars_vals (vs := vs) (ps := ps) h.2
    exact ⟨⟨h.1, q1⟩, by cases v <;> exact q2⟩
theorem wx_callT (h : WX A E Γ te c fun Γ1 V c1 => ∃ O, V = .own O ∧ WA A ET Γ1 tr c1 fun Γ2 gs c2 => Γ2 = Γ1 ∧ ∃ (ps : List Pv) (d : Cl) (k : d.β → Res ρ), gs = vals ps ∧ pre (.io O :: ps.map Ar.val) d ∧ c2 = d.m.bind k ∧ (∀ e, d.m ≠ .err e) ∧ ∀ r, d.m = .ok r → κ Γ1 (d.V r) (k r)) : WX A E Γ (tCall (spM A pre) [] E1 (tCons te tr)) c κ := fun F T S σ H Q O R hc kk => by
  refine h F T S σ H _ O R hc fun Γ1 V c1 h1 S1 H1 x R1 l1 p1 hc1 => ?_
  obtain ⟨Ow1, rfl, h1⟩ := h1
  obtain ⟨a, o, rfl, ha, hw, ns, hI, nh⟩ := p1
  refine h1 (F.at S1 H1 (Held Γ1 σ)) T S1 σ H1 _ ⟨O.nb, fun e z S' H' f => erT A⟩ R1.enter hc1 fun Γ2 gs c2 h2 S2 H2 ws R2 l2 p2 hc2 => ?_
  obtain ⟨rfl, ps, d, k, rfl, hp, rfl, he, hk⟩ := h2
  have ha2 : H2 a = some o := R2.fr.kp a o ha nh
  have ns2 : ¬ S2 a := fun z => by
    rcases R2.fr.fz a z with w | w | w
    · exact ns w
    · have w : H1 a = none := w
      rw [ha] at w; cases w
    · exact nh w
  have R3 : Rel F Γ2 S2 σ H2 := R1.leave R2
  have nh3 : ¬ Held Γ2 σ a := nh
  obtain ⟨q1, q2⟩ := ars_vals p2
  have eio : ioAd (.ref a :: ws) (.io Ow1 :: ps.map Ar.val) = [a] := by show a :: ioAd ws (ps.map Ar.val) = [a]; rw [q2]
  show spM A pre ((.ref a :: ws) ++ []) H2 Q E1
  rw [List.append_nil]
  refine ⟨S2, _, d, hp, ⟨⟨a, o, rfl, ha2, Ow1.up l2 hw, ns2⟩, q1⟩, by rw [eio]; simp, R3.fr.sd, fun z => by rw [z] at hc2; exact O.nb hc2, fun r hr S' H' v f ho hv => ?_, fun e z => absurd z (he e)⟩
  rw [eio] at f
  have fk : ∀ b o, H2 b = some o → b ≠ a → H' b = some o := fun b o h n => f.kp b o h fun z => n (List.mem_singleton.mp z)
  have l3 : Le S2 H2 S' H' := .ex f.le fun b u h w => fk b u h fun z => by
    subst z
    rw [ha2] at h; cases h
    rcases w with w | w
    · exact ns2 w
    · rw [Ow1.nt (Ow1.up l2 hw)] at w; cases w
  have fz' : ∀ b, S' b → S2 b ∨ H2 b = none ∨ b = a := fun b z => (f.fz b z).imp id fun z => z.imp id fun z => List.mem_singleton.mp z
  have R4 : Rel F Γ2 S' σ H' := by
    refine ⟨R3.fr.comp (I := fun b => b ∈ [a]) ⟨f.kp, f.fz, f.le, f.dm, f.sd⟩ fun b z => by rw [List.mem_singleton.mp z]; exact hI, R3.len, fun i P e => ?_, fun i b O' e => ?_, R3.sep⟩
    · obtain ⟨w, e1, e2⟩ := R3.val i P e
      exact ⟨w, e1, P.up l3 e2⟩
    · obtain ⟨b', u, e1, e2, e3, e4, e5, e6⟩ := R3.own i b O' e
      have n : b' ≠ a := fun z => nh3 ⟨i, b, O', e, by rw [e1, z]⟩
      exact ⟨b', u, e1, fk b' u e2 n, O'.up l3 e3, fun z => (fz' b' z).elim e4 fun z => z.elim (fun z => by rw [e2] at z; cases z) n, e5, e6⟩
  refine kk _ _ _ (hk r hr) S' H' v R4 ((l1.trans l2).trans l3) ?_ (by rw [hr] at hc2; exact hc2)
  cases ev : d.V r with
  | val P => rw [ev] at hv; exact hv
  | own O' =>
    rw [ev] at hv
    obtain ⟨b, u, rfl, w2, w3, w4, w5⟩ := hv
    refine ⟨b, u, rfl, w2, w3, w4, .inr (R3.fr.fresh w5), fun z => z.dom R3 w5⟩
end
/-! ### return super().m(..) and .. -/
def pAt (a : Addr) (P : Pv) : Pv := ⟨fun S H v => v = .ref a ∧ P.p S H v, fun l h => ⟨h.1, P.up l h.2⟩⟩
section
variable {ρ : Type} {A : Nat → Addr} {E : L2.St → XK} {E1 : XK} {K : PySem.W.Frag} {Γ : Ctx} {c : Res ρ} {κ : Ctx → Vo → Res ρ → Prop} {pre preS : List Ar → Cl → Prop} {t : TA} {tr : TE} {vs : List V} {H : Hp} {Q : VK} {EE : XK} {N : List Str} {C D : Addr} {a : Addr} {P : Pv}
theorem wx_sup (h : WA A E Γ t c fun Γ1 gs c1 => Γ1[0]? = some (.val (pAt a P)) ∧ RC A E (fun _ vs H Q => spM A preS vs H Q E1) (.val P :: gs) Γ1 c1 κ) : WX A E Γ (fun σ H Q => t σ H fun ws H1 => spM A preS (.ref a :: ws) H1 Q E1) c κ := fun F T S σ H Q O R hc k => by
  refine h F T S σ H _ O R hc fun Γ1 gs c1 h1 S1 H1 ws R1 l1 p1 hc1 => ?_
  obtain ⟨v, e, rfl, hv⟩ := R1.val 0 _ h1.1
  exact h1.2 F T S1 σ H1 _ Q O R1 hc1 ⟨hv, p1⟩ fun Γ' V c' q S' H' v R' l => k Γ' V c' q S' H' v R' (l1.trans l)
/-- the receiver -/
theorem super_self (h : spM A pre vs H Q EE) (hp : ∀ as d, pre as d → ∃ as', as = .val (pObj C []) :: as') : ∃ a dx, vs[0]? = some (.ref a) ∧ H a = some (.ins C dx []) := by
  obtain ⟨S, as, d, h1, h2, _⟩ := h
  obtain ⟨as', rfl⟩ := hp as d h1
  cases vs with
  | nil => exact h2.elim
  | cons v vs =>
    obtain ⟨⟨a, dx, fs, rfl, _, ha, hf⟩, _⟩ := h2
    cases fs with
    | nil => exact ⟨a, dx, rfl, ha⟩
    | cons f fs => exact hf.elim
theorem super_run (h : spM A pre vs H Q EE) (h0 : vs[0]? = some (.ref a))
    (hb : ∀ as d, pre as d → ∃ ps c, as = (.val P :: ps).map id ∧ d.m = Res.noerr c ∧ (∀ r, d.os r = []) ∧ ps.length + 2 ≤ N.length ∧ (∃ qs : List Pv, ps = qs.map Ar.val) ∧
      WX A ET (.val (pAt a P) :: (ctx0 (N.length - 1) ps)) (tAndV (fun σ H Q => t σ H fun ws H1 => spM A preS (.ref a :: ws) H1 Q E0) tr) c fun Γ' V c' => ∃ r, c' = .ok r ∧ V = d.V r) :
    t (startF N vs [some (.ref D)]) H (fun ws H1 => spM A preS (.ref a :: ws) H1 (fun v H2 => ∃ c, v = .bl c ∧ if c = true then tr (startF N vs [some (.ref D)]) H2 Q else Q (.bl false) H2) E0) := by
  obtain ⟨S, as, d, h1, h2, h3, h4, h5, h6, h7⟩ := h
  obtain ⟨ps, c, e1, e2, e3, e4, ⟨qs, e5⟩, hw⟩ := hb as d h1
  rw [List.map_id] at e1
  subst e1; subst e5
  cases vs with
  | nil => exact h2.elim
  | cons v vs =>
    cases h0
    have hio : ioAd (V.ref a :: vs) (.val P :: qs.map Ar.val) = [] := by
      show ioAd vs (qs.map Ar.val) = []
      have : ∀ {vs : List V} {qs : List Pv}, ioAd vs (qs.map Ar.val) = [] := by
        intro vs
        induction vs with
        | nil => intro qs; cases qs <;> rfl
        | cons v vs ih => intro qs; cases qs with
          | nil => cases v <;> rfl
          | cons q qs => cases v <;> exact ih
      exact this
    have hlen := h2.2.len
    rw [List.length_map] at hlen e4
    have R0 : Rel ⟨S, H, fun _ => False, fun _ => 0⟩ (.val (pAt a P) :: ctx0 (N.length - 1) (qs.map Ar.val)) S (startF N (V.ref a :: vs) [some (.ref D)]) H := by
      have sv : ∀ (i : Nat) (v : V), vs[i]? = some v → (startF N (V.ref a :: vs) [some (.ref D)])[i + 1]? = some (some v) := fun i v e => by
        unfold startF
        rw [List.getElem?_append_left (by rw [List.length_map, List.length_cons]; have := (List.getElem?_eq_some_iff.mp e).1; omega), List.getElem?_map, List.getElem?_cons_succ, e]; rfl
      refine ⟨⟨fun _ _ h _ => h, fun _ h => .inl h, fun _ h => h, fun _ h => h, h4⟩, ?_, fun i P' e => ?_, fun i b O e => ?_, fun i j b b' O O' a e1 => ?_⟩
      · unfold startF
        have e1 : (ctx0 (N.length - 1) (qs.map Ar.val)).length = N.length - 1 := ctx0_len (by rw [List.length_map]; omega)
        simp only [List.length_append, List.length_map, List.length_cons, List.length_nil, List.length_replicate, e1]; omega
      · cases i with
        | zero => cases e; exact ⟨.ref a, by unfold startF; rfl, rfl, h2.1⟩
        | succ i =>
          obtain ⟨v, q1, q2⟩ := ctx0_val h2.2 e
          exact ⟨v, sv i v q1, q2⟩
      · cases i with
        | zero => cases e
        | succ i =>
          obtain ⟨_, a', o, _, _, _, _, q⟩ := ctx0_own h2.2 e
          have : ioAd vs (qs.map Ar.val) = [] := hio
          rw [this] at q; cases q
      · cases i with
        | zero => cases e1
        | succ i =>
          obtain ⟨_, a', o, _, _, _, _, q⟩ := ctx0_own h2.2 e1
          have : ioAd vs (qs.map Ar.val) = [] := hio
          rw [this] at q; cases q
    have fin := hw ⟨S, H, fun _ => False, fun _ => 0⟩ (fun c => d.m = Res.noerr c) S (startF N (V.ref a :: vs) [some (.ref D)]) H Q ⟨fun z => h5 z, fun e z S' H' f => absurd z h5⟩ R0 e2 fun Γ' V c' ⟨r, q1, q2⟩ S' H' v R' l hv hr => by
      subst q1; subst q2
      refine h6 r hr S' H' v ⟨fun a o h _ => R'.fr.kp a o h fun z => z, fun a h => (R'.fr.fz a h).imp id fun z => z.elim .inl fun z => z.elim, R'.fr.le, R'.fr.dm, R'.fr.sd⟩ (by rw [hio, e3 r]; trivial) ?_
      cases ev : d.V r with
      | val P => rw [ev] at hv; exact hv
      | own O =>
        rw [ev] at hv
        obtain ⟨b, o, q1, q2, q3, q4, q5, q6⟩ := hv
        exact ⟨b, o, q1, q2, q3, q4, q5.resolve_left fun z => z⟩
    exact fin
end
/-! ### try: x = f(..) except C as e -/
def pExc (a : Addr) : Pv := ⟨fun _ _ v => v = .ref a, fun _ h => h⟩
def pRef (a : Addr) : Pv := ⟨fun _ _ v => v = .ref a, fun _ h => h⟩
section
variable {ρ : Type} {A : Nat → Addr} {E : L2.St → XK} {K : PySem.W.Frag} {Γ : Ctx} {c : Res ρ} {κ : Ctx → Vo → Res ρ → Prop} {Δ : Dl ρ} {α : Type} {te : Ends → TE} {i j n : Nat} {c0 : Value} {ts : Addr → Value → Option Addr → TS} {Wout : L2.WX}
theorem Rel.caught {F : Fr} {S S' : Fz} {σ : L2.St} {H H' : Hp} (R : Rel F Γ S σ H) (f : FrOk (F.at S H (Held Γ σ)) S' H') : Le S H S' H' ∧ Rel F (valsC Γ) S' σ H' := by
  have l : Le S H S' H' := .ex f.le fun a o h k => f.kp a o h fun ⟨i, b, O, h1, h2⟩ => by
    obtain ⟨a', o', e1, e2, e3, e4, _⟩ := R.own i b O h1
    rw [h2] at e1; cases e1
    rw [h] at e2; cases e2
    rcases k with k | k
    · exact e4 k
    · rw [O.nt e3] at k; cases k
  refine ⟨l, ⟨R.fr.comp f R.hI, R.len.trans (valsC_len Γ).symm, fun i P h => ?_, fun i b O h => (valsC_at h).elim (fun z => nomatch z) fun z => absurd rfl (z.2 b O), fun i j b b' O O' a h _ => (valsC_at h).elim (fun z => nomatch z) fun z => absurd rfl (z.2 b O)⟩⟩
  rcases valsC_at h with z | ⟨h, _⟩
  · cases z
  · obtain ⟨v, e, hv⟩ := R.val i P h
    exact ⟨v, e, P.up l hv⟩
theorem ws_try (t : α → Pv) {m : Res α} {k : α → Res ρ} {h : Res ρ} (hc : c = ptry m k n h) (hx : ∀ D, WX A (WE (wAs K c0 i ts Wout D)) Γ (te D) m fun Γ' V c' => Γ' = Γ ∧ ∃ x, V = .val (t x) ∧ c' = .ok x) (hj : j < Γ.length) (hi : i < Γ.length) (hk : ∀ x, Δ.nx (Γ.set j (.val (t x))) (k x)) (hex : PySem.W.exmOne K (.ref (A n)) c0 = some true)
    (hh : ∀ a, WS A E ((valsC Γ).set i (.val (pExc a))) (ts a (.ref (A n)) none) h { Δ with nx := fun Γ' c' => Δ.nx (Γ'.set i .any) c' , bk := fun _ _ => False, ct := fun _ _ => False }) : WS A E Γ (fun D σ H => tAsg (te D) (gName j) D σ H) c Δ := fun F T S σ H D O R hT d => by
  subst hc
  refine hx D (F.at S H (Held Γ σ)) (fun m => T (ptry m k n h)) S σ H _ ⟨(O σ).nb, fun e he S' H' f => ?_⟩ R.enter hT fun Γ' V c' q S' H' v R' l hv hc' => ?_
  · have he2 : T (if e = ⟨n, .no⟩ then h else .bad) := he
    clear he
    by_cases z : e = ⟨n, .no⟩
    · rw [if_pos z] at he2
      subst z
      obtain ⟨l, R1⟩ := R.caught f
      refine ⟨true, hex, fun _ a ha => ?_, fun z => Bool.noConfusion z⟩
      have R2 := R1.setv (P := pExc a) (v := .ref a) (i := i) rfl (by rw [valsC_len]; exact hi)
      refine hh a F T S' _ H' _ O R2 he2 ⟨fun Γ' c' q S2 σ2 H2 R3 l3 hc3 => ?_, fun Γ' V c' q S2 σ2 H2 v R3 l3 hv hc3 => ?_, fun _ _ z => z.elim, fun _ _ z => z.elim⟩
      · exact d.nx _ _ q S2 _ H2 (R3.wipe1 none (.inr (.inr trivial))) (l.trans l3) hc3
      · exact d.rt _ _ _ q S2 σ2 H2 v R3 (l.trans l3) hv hc3
    · rw [if_neg z] at he2; exact absurd he2 (O σ).nb
  · obtain ⟨rfl, x, rfl, rfl⟩ := q
    exact d.nx _ _ (hk x) S' _ H' ((R.leave R').setv hv hj) l hc'
theorem rc_is0 {a : Addr} {C D : Addr} {b : Bool} (hb : PySem.W.kitOne K (.ref C) (.ref D) = some b) (h : κ Γ (.val (yBl b)) c) : RC A E (fun _ => Sl.rIs0 K C a (.ref C) none) [.val (pExc a), .val (pRef D)] Γ c κ := fun F T S σ H vs Q O R hc hg k => by
  obtain ⟨v, w, rfl, hv, hw⟩ := ag2 hg
  cases hv; cases hw
  exact ⟨_, _, b, rfl, rfl, rfl, .own D, hb, k _ _ _ h S H _ R Le.refl rfl hc⟩
/-- what may be None, where it is not -/
def punwrap {α : Type} : Option α → Res α
  | some x => .ok x
  | none => .bad
theorem wx_unw {te : TE} (t : α → Pv) (h : WX A E Γ te c fun Γ' V c' => ∃ x k, V = .val (yOpt t x) ∧ c' = (punwrap x).bind k ∧ ∀ y, κ Γ' (.val (t y)) (k y)) : WX A E Γ te c κ := fun F T S σ H Q O R hc kk =>
  h F T S σ H Q O R hc fun Γ' V c' ⟨x, k, e, e2, q⟩ S' H' v R' l hv hc' => by
    subst e; subst e2
    cases x with
    | none => exact absurd hc' O.nb
    | some y => exact kk Γ' _ _ (q y) S' H' v R' l hv hc'
instance : Scal (Option Int) (yOpt yInt) := ⟨fun x => match x with | none => .non | some i => .int i, fun x S H v h => by cases x <;> exact h, fun x y h => by cases x <;> cases y <;> simp_all, fun x y => by cases x <;> cases y <;> rfl⟩
instance : Scal (Option Str) (yOpt yStr) := ⟨fun x => match x with | none => .non | some i => .str i, fun x S H v h => by cases x <;> exact h, fun x y h => by cases x <;> cases y <;> simp_all, fun x y => by cases x <;> cases y <;> rfl⟩
end
end Mi
namespace Mi
open PySem PySem.Spec PyProof.Rows L2
open Sl (slt Asc)
/-! ### what a plain function returns -/
def Ret {α : Type} (m : Res α) (P : α → Prop) : Prop := ∃ x, m = .ok x ∧ P x
section
variable {α β σ ρ τ : Type} {m : Res α} {P : α → Prop} {Q : β → Prop} {k : α → Res β}
theorem ret_ok {x : α} (h : P x) : Ret (.ok x) P := ⟨x, rfl, h⟩
theorem ret_bind (h : Ret m P) (h2 : ∀ x, P x → Ret (k x) Q) : Ret (m.bind k) Q := by
  obtain ⟨x, rfl, hx⟩ := h
  exact h2 x hx
theorem ret_eq {x : α} (h : m = .ok x) (h2 : Ret (k x) Q) : Ret (m.bind k) Q := by subst h; exact h2
theorem ret_noerr (h : Ret m P) : Ret m.noerr P := by
  obtain ⟨x, rfl, hx⟩ := h
  exact ⟨x, rfl, hx⟩
theorem ret_lt {x : α} {k : α → Res β} (h : Ret (k x) Q) : Ret (lt x k) Q := h
theorem ret_ltE {x : α} {k : α → Res β} (h : ∀ v, v = x → Ret (k v) Q) : Ret (lt x k) Q := h x rfl
theorem ret_if {c : Prop} [Decidable c] {a b : Res α} (h1 : c → Ret a P) (h2 : ¬ c → Ret b P) : Ret (if c then a else b) P := by
  by_cases h : c
  · rw [if_pos h]; exact h1 h
  · rw [if_neg h]; exact h2 h
theorem ret_to {x : α} (h : Ret m (· = x)) : m = .ok x := by
  obtain ⟨y, e, rfl⟩ := h
  exact e
theorem ret_fold {f : σ → β → Res σ} (I : List β → σ → Prop) {xs : List β} {s : σ} (h0 : I [] s) (hs : ∀ pre x post s, xs = pre ++ x :: post → I pre s → Ret (f s x) (I (pre ++ [x]))) : Ret (pfold f s xs) (I xs) := by
  suffices ∀ pre post s, xs = pre ++ post → I pre s → Ret (pfold f s post) (I xs) from this [] xs s rfl h0
  intro pre post
  induction post generalizing pre with
  | nil => intro s e hi; rw [e, List.append_nil]; exact ⟨s, rfl, hi⟩
  | cons x post ih =>
    intro s e hi
    refine ret_bind (hs pre x post s e hi) fun s' hi' => ?_
    exact ih (pre ++ [x]) s' (by rw [e]; simp) hi'
def ForR (I : σ → Prop) (R : τ → Prop) : Fl σ τ → Prop
  | .nx s => I s
  | .br s => I s
  | .rt r => R r
theorem ret_for {f : σ → β → Res (Fl σ τ)} (I : List β → σ → Prop) (J : σ → Prop) (R : τ → Prop) {xs : List β} {s : σ} (h0 : I [] s) (hJ : ∀ s, I xs s → J s)
    (hs : ∀ pre x post s, xs = pre ++ x :: post → I pre s → Ret (f s x) fun r => match r with | .nx s' => I (pre ++ [x]) s' | .br s' => J s' | .rt r => R r) : Ret (pfor f s xs) (ForR J R) := by
  suffices ∀ pre post s, xs = pre ++ post → I pre s → Ret (pfor f s post) (ForR J R) from this [] xs s rfl h0
  intro pre post
  induction post generalizing pre with
  | nil => intro s e hi; exact ⟨.nx s, rfl, hJ s (by rw [e, List.append_nil]; exact hi)⟩
  | cons x post ih =>
    intro s e hi
    refine ret_bind (hs pre x post s e hi) fun r hr => ?_
    cases r with
    | nx s' => exact ih (pre ++ [x]) s' (by rw [e]; simp) hr
    | br s' => exact ⟨.nx s', rfl, hr⟩
    | rt r => exact ⟨.rt r, rfl, hr⟩
theorem ret_thn {m : Res (Fl σ τ)} {k : σ → Res ρ} {j : τ → Res ρ} {I : σ → Prop} {R : τ → Prop} {Q : ρ → Prop} (h : Ret m (ForR I R)) (h1 : ∀ s, I s → Ret (k s) Q) (h2 : ∀ r, R r → Ret (j r) Q) : Ret (m.thn k j) Q := by
  obtain ⟨x, rfl, hx⟩ := h
  cases x with
  | nx s => exact h1 s hx
  | br s => exact h1 s hx
  | rt r => exact h2 r hx
theorem pml_ok {f : α → Res (Option β)} {g : α → Option β} : ∀ {xs : List α}, (∀ x ∈ xs, f x = .ok (g x)) → pml f xs = .ok (xs.filterMap g)
  | [], _ => rfl
  | x :: xs, h => by
    rw [pml, h x (List.mem_cons_self ..), bind_ok, pml_ok fun y hy => h y (List.mem_cons_of_mem _ hy), bind_ok, List.filterMap_cons]
    cases g x <;> rfl
theorem pml_map {f : α → Res (Option β)} {g : α → β} {xs : List α} (h : ∀ x ∈ xs, f x = .ok (some (g x))) : pml f xs = .ok (xs.map g) := by
  rw [pml_ok (g := fun x => some (g x)) h]
  exact congrArg Res.ok (List.filterMap_eq_map (f := g) ▸ rfl)
theorem ret_pml {f : α → Res (Option β)} {xs : List α} (h : ∀ x ∈ xs, ∃ y, f x = .ok y) : Ret (pml f xs) fun _ => True := by
  induction xs with
  | nil => exact ⟨[], rfl, trivial⟩
  | cons x xs ih =>
    obtain ⟨y, e⟩ := h x (List.mem_cons_self ..)
    obtain ⟨ys, e2, _⟩ := ih fun y hy => h y (List.mem_cons_of_mem _ hy)
    exact ⟨_, by rw [pml, e, bind_ok, e2, bind_ok], trivial⟩
theorem ret_plc {f : σ → α → Res (Option β × σ)} (I : σ → Prop) (G : β → Prop) : ∀ {xs : List α} {s : σ}, I s → (∀ s x, I s → Ret (f s x) fun r => I r.2 ∧ ∀ y ∈ r.1, G y) → Ret (plc f s xs) fun r => I r.2 ∧ r.1.length ≤ xs.length ∧ ∀ y ∈ r.1, G y
  | [], s, hi, _ => ⟨([], s), rfl, hi, Nat.le_refl _, by simp⟩
  | x :: xs, s, hi, h => by
    refine ret_bind (h s x hi) fun r hr => ?_
    refine ret_bind (ret_plc I G (xs := xs) hr.1 h) fun q hq => ?_
    refine ret_ok ⟨hq.1, ?_, fun y hy => ?_⟩
    · cases e : r.1 <;> simp [e] <;> omega
    · rcases List.mem_append.mp hy with hy | hy
      · exact hr.2 y (by simpa using hy)
      · exact hq.2.2 y hy
theorem guard_ok {p : Prop} [Decidable p] (h : p) : guard p = .ok () := if_pos h
theorem psnoc_ok {xs : List α} {y : α} (h : xs.length < 100000) : psnoc xs y = .ok (xs ++ [y]) := if_pos h
theorem pcat_ok {xs ys : List α} (h : xs.length + ys.length ≤ 100000) : pcat xs ys = .ok (xs ++ ys) := if_pos h
theorem pmod_ok {x y : Int} (h : 0 < y) : pmod x y = .ok (x % y) := if_pos h
theorem pdiv_ok {x y : Int} (h : 0 < y) (h2 : y < 1073741824) : pdiv x y = .ok (x / y) := if_pos ⟨h, h2⟩
theorem pmul_l {x y : Int} (h : -(2 ^ 64) < x) (h2 : x < 2 ^ 64) : pmul x y = .ok (x * y) := if_pos (.inl ⟨h, h2⟩)
theorem pmul_r {x y : Int} (h : -(2 ^ 64) < y) (h2 : y < 2 ^ 64) : pmul x y = .ok (x * y) := if_pos (.inr ⟨h, h2⟩)
theorem psortS_ok {xs : List Str} (h : xs.length < 64) : psortS xs = .ok (sortS xs) := if_pos h
theorem pidx_nat {xs : List α} {n : Nat} {x : α} (h : xs[n]? = some x) : pidx xs (n : Int) = .ok x := by
  unfold pidx; rw [atI_nat h]
theorem pidx_get {xs : List α} {i : Int} (h0 : 0 ≤ i) (h1 : i < xs.length) : Ret (pidx xs i) fun x => x ∈ xs ∧ xs[i.toNat]? = some x := by
  obtain ⟨n, rfl⟩ := Int.eq_ofNat_of_zero_le h0
  have h : n < xs.length := by omega
  exact ⟨xs[n], pidx_nat (by simp [h]), List.getElem_mem h, by simp [h]⟩
end
/-! dicts -/
section
variable {κ α : Type} [DecidableEq κ] {d : List (κ × α)} {k k' : κ} {x y : α}
theorem dlook_nil : dlook ([] : List (κ × α)) k = none := rfl
theorem dlook_cons {p : κ × α} : dlook (p :: d) k = if p.1 = k then some p.2 else dlook d k := by
  unfold dlook
  rw [List.find?_cons]
  by_cases h : p.1 = k <;> simp [h]
theorem dlook_put : dlook (dput d k x) k' = if k' = k then some x else dlook d k' := by
  unfold dput
  by_cases h : (d.any fun kv => decide (kv.1 = k)) = true
  · rw [if_pos h]
    induction d with
    | nil => simp at h
    | cons p d ih =>
      rw [List.map_cons, dlook_cons, dlook_cons]
      by_cases e : p.1 = k
      · simp only [e, if_true]
        by_cases e2 : k' = k
        · subst e2; simp
        · rw [if_neg (fun z => e2 z.symm), if_neg e2, if_neg (fun z => e2 z.symm)]
          by_cases h2 : (d.any fun kv => decide (kv.1 = k)) = true
          · rw [ih h2, if_neg e2]
          · have : (d.map fun kv => if kv.1 = k then (kv.1, x) else kv) = d := by
              clear ih h
              induction d with
              | nil => rfl
              | cons q d ih2 =>
                have e3 : q.1 ≠ k := fun z => h2 (by rw [List.any_cons, decide_eq_true z, Bool.true_or])
                rw [List.map_cons, if_neg e3, ih2 fun z => h2 (by rw [List.any_cons, z, Bool.or_true])]
            rw [this]
      · simp only [if_neg e]
        have h2 : (d.any fun kv => decide (kv.1 = k)) = true := by simpa [List.any_cons, e] using h
        rw [ih h2]
        by_cases e2 : p.1 = k'
        · have : k' ≠ k := fun z => e (e2.trans z)
          simp [e2, this]
        · simp [e2]
  · rw [if_neg h]
    induction d with
    | nil =>
      rw [List.nil_append, dlook_cons, dlook_nil]
      by_cases e : k' = k
      · rw [if_pos e.symm, if_pos e]
      · rw [if_neg (fun z => e z.symm), if_neg e]
    | cons p d ih =>
      have h2 : ¬ (d.any fun kv => decide (kv.1 = k)) = true := fun z => h (by rw [List.any_cons, z, Bool.or_true])
      have e : p.1 ≠ k := fun z => h (by rw [List.any_cons, decide_eq_true z, Bool.true_or])
      rw [List.cons_append, dlook_cons, dlook_cons, ih h2]
      by_cases e2 : p.1 = k'
      · have : k' ≠ k := fun z => e (e2.trans z)
        simp [e2, this]
      · simp [e2]
theorem pdget_ok (h : dlook d k = some x) : pdget d k = .ok x := by unfold pdget; rw [h]
theorem pdput_ok (h : d.length < 100000) : pdput d k x = .ok (dput d k x) := if_pos h
theorem dput_len : (dput d k x).length ≤ d.length + 1 := by
  unfold dput
  split
  · rw [List.length_map]; omega
  · rw [List.length_append]; simp
theorem mem_dkeys_put : k' ∈ dkeys (dput d k x) ↔ k' = k ∨ k' ∈ dkeys d := by
  unfold dput dkeys
  split
  · next h =>
    have : (d.map fun kv => if kv.1 = k then (kv.1, x) else kv).map (·.1) = d.map (·.1) := by
      rw [List.map_map]
      refine List.map_congr_left fun kv _ => ?_
      show (if kv.1 = k then (kv.1, x) else kv).1 = kv.1
      split <;> rfl
    rw [this]
    obtain ⟨kv, h1, h2⟩ := List.any_eq_true.mp h
    refine ⟨.inr, fun z => z.elim (fun z => ?_) id⟩
    subst z
    exact List.mem_map.mpr ⟨kv, h1, of_decide_eq_true h2⟩
  · rw [List.map_append, List.mem_append]
    simp [or_comm]
theorem dkeys_put_nodup (h : (dkeys d).Nodup) : (dkeys (dput d k x)).Nodup := by
  unfold dput
  split
  · have : dkeys (d.map fun kv => if kv.1 = k then (kv.1, x) else kv) = dkeys d := by
      unfold dkeys
      rw [List.map_map]
      refine List.map_congr_left fun kv _ => ?_
      show (if kv.1 = k then (kv.1, x) else kv).1 = kv.1
      split <;> rfl
    rw [this]; exact h
  · next hn =>
    unfold dkeys
    rw [List.map_append]
    refine List.nodup_append.mpr ⟨h, by simp, fun a ha b hb e => ?_⟩
    have hb : b = k := by simpa using hb
    rw [e, hb] at ha
    obtain ⟨kv, h1, h2⟩ := List.mem_map.mp ha
    exact hn (List.any_eq_true.mpr ⟨kv, h1, decide_eq_true h2⟩)
theorem dlook_mem (h : k ∈ dkeys d) : ∃ x, dlook d k = some x := by
  induction d with
  | nil => simp [dkeys] at h
  | cons p d ih =>
    rw [dlook_cons]
    by_cases e : p.1 = k
    · exact ⟨p.2, if_pos e⟩
    · rw [if_neg e]
      refine ih ?_
      simp only [dkeys, List.map_cons, List.mem_cons] at h
      exact h.resolve_left fun z => e z.symm
end
/-! sorted texts -/
theorem mem_sortS {xs : List Str} {x : Str} : x ∈ sortS xs ↔ x ∈ xs := (sortS_perm xs).mem_iff
theorem asc_sortS {xs : List Str} (h : xs.Nodup) : Asc (sortS xs) := by
  have nd := (sortS_perm xs).nodup_iff.mpr h
  refine List.Pairwise.imp₂ (fun a b h1 h2 => ?_) (sortS_pw xs) nd
  rcases Sl.slt_tri a b with q | q | q
  · exact q
  · exact absurd q h2
  · exact absurd q h1
theorem sortS_asc {xs : List Str} (h : Asc xs) : sortS xs = xs := Asc.ext (asc_sortS h.nodup) h fun x => mem_sortS
end Mi
namespace Mi
open PySem PySem.Spec PyProof.Rows L2
open Sl (isTup sz szl slt)
/-! ### texts -/
end Mi
namespace Sl
open PySem PySem.Spec PyProof.Rows L2
/-! ### sorted(xs, key=len) of a list of tuples -/
/-- tuples and their lengths -/
inductive TLn (K : PySem.W.Frag) (H : Hp) : List V → List Nat → Prop
  | nil : TLn K H [] []
  | cons {a : Addr} {ys vs : List V} {ns : List Nat} : SqT K H a ys → TLn K H vs ns → TLn K H (.ref a :: vs) (ys.length :: ns)
theorem TLn.len {K : PySem.W.Frag} {H : Hp} : ∀ {vs : List V} {ns : List Nat}, TLn K H vs ns → vs.length = ns.length
  | _, _, .nil => rfl
  | _, _, .cons _ h => congrArg Nat.succ h.len
end Sl
namespace Sl
open PySem PySem.Spec PyProof.Rows L2
/-! ### sorted(d.items()), the keys texts, the values ints -/
section
variable {X : Cx}
/-- u is a tuple (text, int) made at n or later -/
def PairFrom (h : Heap) (n : Nat) (u : Value) (q : Str × Int) : Prop :=
  ∃ b t t', u = .ref b ∧ n ≤ b ∧ h.get? b = some { cls := .type "tuple", data := .seq #[Value.str q.1 t, Value.int q.2 t'] }
theorem PairFrom.one {h : Heap} {n : Nat} {u : Value} {q q' : Str × Int} (x : PairFrom h n u q) (y : PairFrom h n u q') : q = q' := by
  obtain ⟨b, t, t', rfl, -, e⟩ := x
  obtain ⟨b', _, _, e', -, e2⟩ := y
  cases e'
  rw [e] at e2
  injection e2 with e2
  injection e2 with _ _ e2
  injection e2 with e2
  simp only [Array.mk.injEq, List.cons.injEq, Value.str.injEq, Value.int.injEq] at e2
  exact Prod.ext e2.1.1 e2.2.1.1
end
end Sl
namespace Sl
open PySem PySem.Spec PyProof.Rows L2
/-! ### sorted of whatever is collected into a list -/
end Sl
namespace Sl
open PySem PySem.Spec PyProof.Rows L2
end Sl
namespace Mi
open PySem PySem.Spec PyProof.Rows L2
open Sl (isTup sz szl slt)
/-! ### data in order -/
def ltI (x y : Int) : Bool := decide (x < y)
def ltT (x y : Str) : Bool := decide (slt x y)
def ltL {α : Type} [DecidableEq α] (lt : α → α → Bool) : List α → List α → Bool
  | _, [] => false
  | [], _ :: _ => true
  | x :: xs, y :: ys => if x = y then ltL lt xs ys else lt x y
def ltP {α β : Type} [DecidableEq α] [DecidableEq β] (l1 : α → α → Bool) (l2 : β → β → Bool) (x y : α × β) : Bool := if x.1 = y.1 then (if x.2 = y.2 then false else l2 x.2 y.2) else l1 x.1 y.1
def gdL {α : Type} (_ : List α) : Bool := true
def gdA {α : Type} (_ : α) : Bool := true
class Od (K : PySem.W.Frag) {α : Type} [DecidableEq α] (t : α → Pv) extends Dat K t where
  lt : α → α → Bool
  gd : α → Bool
  ltE : ∀ x y, PySem.W.dataLt (enc x) (enc y) = lt x y
  alk : ∀ x y, PySem.W.alike (enc x) (enc y) = true
  sk : (∀ x, ∃ ds, enc x = .tuple ds) ∨ (∀ x, enc x ≠ .none ∧ ∀ ds, enc x ≠ .tuple ds)
  nn : ∀ x, enc x ≠ .none
  fit : α → Prop
  ofp : ∀ x S H v, (t x).p S H v → fit x
  back : ∀ x S H v, Dp K H v (enc x) → fit x → (t x).p S H v
section
variable {K : PySem.W.Frag} {α β γ : Type} [DecidableEq α] [DecidableEq β] {t : α → Pv} {u : β → Pv}
instance : Od K yInt := { lt := ltI, gd := gdA, ltE := PySem.W.dataLt_int, alk := fun _ _ => rfl, sk := .inr fun _ => ⟨fun z => (nomatch z), fun _ z => nomatch z⟩, nn := fun _ z => (nomatch z), fit := fun _ => True, ofp := fun _ _ _ _ _ => trivial, back := fun x S H v h _ => by cases h; rfl }
instance : Od K yStr := { lt := ltT, gd := gdA, ltE := PySem.W.dataLt_str, alk := fun _ _ => rfl, sk := .inr fun _ => ⟨fun z => (nomatch z), fun _ z => nomatch z⟩, nn := fun _ z => (nomatch z), fit := fun _ => True, ofp := fun _ _ _ _ _ => trivial, back := fun x S H v h _ => by cases h; rfl }
theorem rowLt_of [D : Od K t] : ∀ xs ys : List α, PySem.W.rowLt (xs.map D.enc) (ys.map D.enc) = ltL D.lt xs ys
  | [], [] => by
    rw [List.map_nil]
    show PySem.W.rowLt [] [] = false
    decide +kernel
  | [], y :: ys => by
    rw [List.map_nil, List.map_cons]
    show PySem.W.rowLt [] _ = true
    unfold PySem.W.rowLt
    rw [PySem.W.toks_all_cons, show PySem.W.keyToksAll [] = [Sum.inl 0] by rw [PySem.W.keyToksAll], PySem.W.lex_atom (by decide), PySem.W.lex_one]
    decide
  | x :: xs, [] => by
    rw [List.map_nil, List.map_cons]
    show PySem.W.rowLt _ [] = false
    unfold PySem.W.rowLt
    rw [PySem.W.toks_all_cons, show PySem.W.keyToksAll [] = [Sum.inl 0] by rw [PySem.W.keyToksAll], PySem.W.lex_atom (by decide), PySem.W.lex_one]
    decide
  | x :: xs, y :: ys => by
    show PyProof.Rows.lexLt _ _ _ = _
    rw [List.map_cons, List.map_cons, PySem.W.dataLt_cons (D.alk x y)]
    show _ = if x = y then ltL D.lt xs ys else D.lt x y
    by_cases e : x = y
    · rw [if_pos ((D.eq x y).mpr e), if_pos e]; exact rowLt_of xs ys
    · rw [if_neg fun z => e ((D.eq x y).mp z), if_neg e]; exact D.ltE x y
theorem alikes_of [D : Od K t] : ∀ xs ys : List α, PySem.W.alikeAll (xs.map D.enc) (ys.map D.enc) = true
  | [], _ => by simp [PySem.W.alikeAll]
  | _ :: _, [] => by simp [PySem.W.alikeAll]
  | x :: xs, y :: ys => by rw [List.map_cons, List.map_cons, PySem.W.alikeAll, D.alk x y, alikes_of xs ys]; rfl
theorem fits_of [D : Od K t] {S : Fz} {H : Hp} : ∀ {vs : List V} {xs : List α}, PsOk S H vs (xs.map t) → ∀ x ∈ xs, D.fit x
  | [], [], _, _, h => nomatch h
  | [], _ :: _, h, _, _ => False.elim h
  | _ :: _, [], h, _, _ => False.elim h
  | v :: vs, y :: ys, h, x, hx => by
    rcases List.mem_cons.mp hx with e | hx
    · rw [e]; exact D.ofp y S H v h.1
    · exact fits_of h.2 x hx
theorem backs_of [D : Od K t] {S : Fz} {H : Hp} : ∀ {vs : List V} {xs : List α}, DpAll K H vs (xs.map D.enc) → (∀ x ∈ xs, D.fit x) → PsOk S H vs (xs.map t)
  | [], [], _, _ => trivial
  | [], _ :: _, h, _ => nomatch h
  | _ :: _, [], h, _ => nomatch h
  | v :: vs, x :: xs, .cons h hs, f => ⟨D.back x S H v h (f x (List.mem_cons_self ..)), backs_of hs fun y hy => f y (List.mem_cons_of_mem _ hy)⟩
theorem dpAll_length {H : Hp} : ∀ {vs : List V} {ds : List PyData}, DpAll K H vs ds → vs.length = ds.length
  | _, _, .nil => rfl
  | _, _, .cons _ h => congrArg Nat.succ (dpAll_length h)
theorem dp_tup {H : Hp} {v : V} {ds : List PyData} (h : Dp K H v (.tuple ds)) : ∃ a vs, v = .ref a ∧ SqT K H a vs ∧ DpAll K H vs ds := by
  cases h with
  | tup h1 h2 => exact ⟨_, _, rfl, h1, h2⟩
theorem dpAll2 {H : Hp} {vs : List V} {d e : PyData} (h : DpAll K H vs [d, e]) : ∃ v w, vs = [v, w] ∧ Dp K H v d ∧ Dp K H w e := by
  cases h with
  | cons h hs => cases hs with
    | cons h' ht => cases ht with
      | nil => exact ⟨_, _, rfl, h, h'⟩
instance [D : Od K t] : Od K (fun xs : List α => yTup K t xs) := {
  lt := ltL D.lt, gd := gdL
  ltE := fun xs ys => by
    show PySem.W.dataLt (.tuple _) (.tuple _) = _
    rw [PySem.W.dataLt_tuple]; exact rowLt_of xs ys
  alk := fun xs ys => by
    show PySem.W.alike (.tuple _) (.tuple _) = true
    rw [PySem.W.alike]; exact alikes_of xs ys
  sk := .inl fun xs => ⟨_, rfl⟩
  nn := fun _ z => nomatch z
  fit := fun xs => xs.length ≤ sizeLine ∧ ∀ x ∈ xs, D.fit x
  ofp := fun xs S H v ⟨a, vs, _, _, h, hl⟩ => ⟨by rw [← (List.length_map (f := t)), ← h.length]; exact hl, fits_of h⟩
  back := fun xs S H v h f => by
    have h : Dp K H v (.tuple (xs.map D.enc)) := h
    obtain ⟨a, vs, rfl, h1, h2⟩ := dp_tup h
    exact ⟨a, vs, rfl, h1, backs_of h2 f.2, by rw [dpAll_length h2, List.length_map]; exact f.1⟩ }
instance [D : Od K t] [D' : Od K u] : Od K (yPr K t u) := {
  lt := ltP D.lt D'.lt, gd := gdA
  ltE := fun x y => by
    show PySem.W.dataLt (.tuple [_, _]) (.tuple [_, _]) = _
    rw [PySem.W.dataLt_pair (D.alk _ _) (D'.alk _ _)]
    unfold ltP
    by_cases e : x.1 = y.1
    · rw [if_pos ((D.eq _ _).mpr e), if_pos e]
      by_cases e2 : x.2 = y.2
      · rw [if_pos ((D'.eq _ _).mpr e2), if_pos e2]
      · rw [if_neg fun z => e2 ((D'.eq _ _).mp z), if_neg e2]; exact D'.ltE _ _
    · rw [if_neg fun z => e ((D.eq _ _).mp z), if_neg e]; exact D.ltE _ _
  alk := fun x y => by
    show PySem.W.alike (.tuple [_, _]) (.tuple [_, _]) = true
    rw [PySem.W.alike, PySem.W.alikeAll, D.alk, PySem.W.alikeAll, D'.alk]; simp [PySem.W.alikeAll]
  sk := .inl fun _ => ⟨_, rfl⟩
  nn := fun _ z => nomatch z
  fit := fun x => D.fit x.1 ∧ D'.fit x.2
  ofp := fun x S H v ⟨a, vs, _, _, h, _⟩ => by
    match vs, h with
    | [v1, v2], h => exact ⟨D.ofp _ _ _ _ h.1, D'.ofp _ _ _ _ h.2.1⟩
  back := fun x S H v h f => by
    have h : Dp K H v (.tuple [D.enc x.1, D'.enc x.2]) := h
    obtain ⟨a, vs, rfl, h1, h2⟩ := dp_tup h
    obtain ⟨v1, v2, rfl, p, q⟩ := dpAll2 h2
    exact ⟨a, [v1, v2], rfl, h1, ⟨D.back _ _ _ _ p f.1, D'.back _ _ _ _ q f.2, trivial⟩, by rw [sizeLine_eq]; show 2 ≤ 16777216; omega⟩ }
end
section
variable {ρ : Type} {A : Nat → Addr} {E : L2.St → XK} {K : PySem.W.Frag} {Γ : Ctx} {c : Res ρ} {κ : Ctx → Vo → Res ρ → Prop} {α β : Type} {t : α → Pv} {te td tke tve : TE} {tr : TA} {i : Nat}
/-- membership, by the one decision of equality -/
def pin {α : Type} [DecidableEq α] (x : α) (ys : List α) : Bool := decide (x ∈ ys)
/-! sorted(d.items()) -/
/-! {**d, k: v} -/
end
end Mi
namespace Mi
open PySem PySem.Spec PyProof.Rows L2
open Sl (isTup sz szl slt)
end Mi
namespace Sl
open PySem PySem.Spec PyProof.Rows L2
/-! ### match: sequences of texts and names -/
end Sl
namespace Mi
open PySem PySem.Spec PyProof.Rows L2
open Sl (isTup sz szl slt)
/-! ### data of mixed kinds: ints, texts, None, tuples of such -/
inductive Dy | non | int (i : Int) | str (s : Str) | tup (xs : List Dy)
mutual
def decDy : (a b : Dy) → Decidable (a = b)
  | .non, .non => .isTrue rfl
  | .int i, .int j => if h : i = j then .isTrue (by rw [h]) else .isFalse fun e => h (by injection e)
  | .str i, .str j => if h : i = j then .isTrue (by rw [h]) else .isFalse fun e => h (by injection e)
  | .tup xs, .tup ys => match decDys xs ys with
    | .isTrue h => .isTrue (by rw [h])
    | .isFalse h => .isFalse fun e => h (by injection e)
  | .non, .int _ => .isFalse nofun
  | .non, .str _ => .isFalse nofun
  | .non, .tup _ => .isFalse nofun
  | .int _, .non => .isFalse nofun
  | .int _, .str _ => .isFalse nofun
  | .int _, .tup _ => .isFalse nofun
  | .str _, .non => .isFalse nofun
  | .str _, .int _ => .isFalse nofun
  | .str _, .tup _ => .isFalse nofun
  | .tup _, .non => .isFalse nofun
  | .tup _, .int _ => .isFalse nofun
  | .tup _, .str _ => .isFalse nofun
def decDys : (a b : List Dy) → Decidable (a = b)
  | [], [] => .isTrue rfl
  | [], _ :: _ => .isFalse nofun
  | _ :: _, [] => .isFalse nofun
  | x :: xs, y :: ys => match decDy x y, decDys xs ys with
    | .isTrue h, .isTrue k => .isTrue (by rw [h, k])
    | .isFalse h, _ => .isFalse fun e => h (by injection e)
    | _, .isFalse k => .isFalse fun e => k (by injection e)
end
instance : DecidableEq Dy := decDy
instance : Inhabited Dy := ⟨.non⟩
mutual
def encDy : Dy → PyData
  | .non => .none
  | .int i => .int i
  | .str s => .str s
  | .tup xs => .tuple (encDys xs)
def encDys : List Dy → List PyData
  | [] => []
  | x :: xs => encDy x :: encDys xs
end
mutual
def yDy0 (K : PySem.W.Frag) : Dy → Pv
  | .non => yNon
  | .int i => yInt i
  | .str s => yStr s
  | .tup xs => pTup K (yDys0 K xs)
def yDys0 (K : PySem.W.Frag) : List Dy → List Pv
  | [] => []
  | x :: xs => yDy0 K x :: yDys0 K xs
end
def yDy (K : PySem.W.Frag) (d : Dy) : Pv := ⟨fun S H v => (encDy d).depth ≤ 16 ∧ (yDy0 K d).p S H v, fun l h => ⟨h.1, (yDy0 K d).up l h.2⟩⟩
section
variable {K : PySem.W.Frag}
mutual
theorem dpDy {S : Fz} {H : Hp} : ∀ (x : Dy) (v : V), (yDy0 K x).p S H v → Dp K H v (encDy x)
  | .non, v, h => by rw [show v = .non from h]; exact .non
  | .int i, v, h => by rw [show v = .int i from h]; exact .int i
  | .str i, v, h => by rw [show v = .str i from h]; exact .str i
  | .tup xs, v, h => by
    obtain ⟨a, vs, e, h1, h2, _⟩ := h
    rw [e]; exact .tup h1 (dpDys xs vs h2)
theorem dpDys {S : Fz} {H : Hp} : ∀ (xs : List Dy) (vs : List V), PsOk S H vs (yDys0 K xs) → DpAll K H vs (encDys xs)
  | [], [], _ => .nil
  | [], _ :: _, h => False.elim h
  | _ :: _, [], h => False.elim h
  | x :: xs, v :: vs, h => .cons (dpDy x v h.1) (dpDys xs vs h.2)
end
mutual
theorem plDy : ∀ x : Dy, (encDy x).plain = true
  | .non => rfl
  | .int _ => rfl
  | .str _ => rfl
  | .tup xs => by rw [encDy, PyData.plain]; exact plDys xs
theorem plDys : ∀ xs : List Dy, PyData.plainAll (encDys xs) = true
  | [] => rfl
  | x :: xs => by rw [encDys, PyData.plainAll, plDy x, plDys xs]; rfl
end
mutual
theorem eqDy : ∀ x y : Dy, PyData.eqv (encDy x) (encDy y) = true ↔ x = y
  | .non, .non => by simp [encDy, PyData.eqv]
  | .int i, .int j => by simp [encDy, PyData.eqv]
  | .str i, .str j => by simp [encDy, PyData.eqv]
  | .tup xs, .tup ys => by rw [encDy, encDy, PyData.eqv, eqDys xs ys]; simp
  | .non, .int _ => by simp [encDy, PyData.eqv]
  | .non, .str _ => by simp [encDy, PyData.eqv]
  | .non, .tup _ => by simp [encDy, PyData.eqv]
  | .int _, .non => by simp [encDy, PyData.eqv]
  | .int _, .str _ => by simp [encDy, PyData.eqv]
  | .int _, .tup _ => by simp [encDy, PyData.eqv]
  | .str _, .non => by simp [encDy, PyData.eqv]
  | .str _, .int _ => by simp [encDy, PyData.eqv]
  | .str _, .tup _ => by simp [encDy, PyData.eqv]
  | .tup _, .non => by simp [encDy, PyData.eqv]
  | .tup _, .int _ => by simp [encDy, PyData.eqv]
  | .tup _, .str _ => by simp [encDy, PyData.eqv]
theorem eqDys : ∀ xs ys : List Dy, PyData.eqvAll (encDys xs) (encDys ys) = true ↔ xs = ys
  | [], [] => by simp [encDys, PyData.eqvAll]
  | [], _ :: _ => by simp [encDys, PyData.eqvAll]
  | _ :: _, [] => by simp [encDys, PyData.eqvAll]
  | x :: xs, y :: ys => by rw [encDys, encDys, PyData.eqvAll, Bool.and_eq_true, eqDy x y, eqDys xs ys]; simp
end
instance : Dat K (yDy K) := ⟨encDy, fun x S H v h => dpDy x v h.2, plDy, 16, fun x S H v h => h.1, eqDy⟩
end
/-! into it -/
class ToDy (K : PySem.W.Frag) {α : Type} (t : α → Pv) where
  to : α → Dy
  n : Nat
  dep : ∀ x, (encDy (to x)).depth ≤ n
  ok : ∀ x S H v, (t x).p S H v → (yDy0 K (to x)).p S H v
section
variable {K : PySem.W.Frag} {α β γ : Type} {t : α → Pv} {u : β → Pv} {w : γ → Pv}
instance : ToDy K yInt := ⟨Dy.int, 1, fun _ => by simp [encDy, PyData.depth], fun _ _ _ _ h => h⟩
instance : ToDy K yStr := ⟨Dy.str, 1, fun _ => by simp [encDy, PyData.depth], fun _ _ _ _ h => h⟩
theorem todys [D : ToDy K t] {S : Fz} {H : Hp} : ∀ {vs : List V} {xs : List α}, PsOk S H vs (xs.map t) → PsOk S H vs (yDys0 K (xs.map D.to))
  | [], [], _ => trivial
  | [], _ :: _, h => False.elim h
  | _ :: _, [], h => False.elim h
  | v :: vs, x :: xs, h => ⟨D.ok x S H v h.1, todys h.2⟩
theorem todeps [D : ToDy K t] : ∀ xs : List α, PyData.depthAll (encDys (xs.map D.to)) ≤ D.n
  | [] => by simp [encDys, PyData.depthAll]
  | x :: xs => by rw [List.map_cons, encDys, PyData.depthAll]; have := D.dep x; have := todeps xs; omega
instance [D : ToDy K t] : ToDy K (fun xs : List α => yTup K t xs) := ⟨fun xs => .tup (xs.map D.to), D.n + 1, fun xs => by rw [encDy, PyData.depth]; have := todeps (K := K) (t := t) xs; omega, fun xs S H v ⟨a, vs, e, h1, h2, h3⟩ => ⟨a, vs, e, h1, todys h2, h3⟩⟩
instance [D : ToDy K t] [D' : ToDy K u] : ToDy K (yPr K t u) := ⟨fun x => .tup [D.to x.1, D'.to x.2], max D.n D'.n + 1, fun x => by
  simp only [encDy, encDys, PyData.depth, PyData.depthAll]; have := D.dep x.1; have := D'.dep x.2; omega, fun x S H v ⟨a, vs, e, h1, h2, h3⟩ => by
  match vs, h2 with
  | [v1, v2], h2 => exact ⟨a, _, e, h1, ⟨D.ok _ _ _ _ h2.1, D'.ok _ _ _ _ h2.2.1, trivial⟩, h3⟩⟩
instance [D : ToDy K t] [D' : ToDy K u] [D2 : ToDy K w] : ToDy K (yTr K t u w) := ⟨fun x => .tup [D.to x.1, D'.to x.2.1, D2.to x.2.2], max D.n (max D'.n D2.n) + 1, fun x => by
  simp only [encDy, encDys, PyData.depth, PyData.depthAll]; have := D.dep x.1; have := D'.dep x.2.1; have := D2.dep x.2.2; omega, fun x S H v ⟨a, vs, e, h1, h2, h3⟩ => by
  match vs, h2 with
  | [v1, v2, v3], h2 => exact ⟨a, _, e, h1, ⟨D.ok _ _ _ _ h2.1, D'.ok _ _ _ _ h2.2.1, D2.ok _ _ _ _ h2.2.2.1, trivial⟩, h3⟩⟩
end
end Mi
namespace Sl
open PySem PySem.Spec PyProof.Rows L2
/-! ### t[::-1] -/
end Sl
namespace Mi
open PySem PySem.Spec PyProof.Rows L2
end Mi
namespace Mi
open PySem PySem.Spec PyProof.Rows L2
end Mi
namespace Sl
open PySem PySem.Spec PyProof.Rows L2 Mi
def Src2 (l : List Int) : Prop := ∃ n c, l = [n, c]
theorem rng_len {a : Int} {n : Nat} : (rng a n).length = n := by simp [rng]
theorem pcut_sub {α : Type} {xs : List α} {a b : Option Int} : (pcut xs a b).Sublist xs := (List.take_sublist ..).trans (List.drop_sublist ..)
theorem not_dec {p : Prop} [Decidable p] (h : (!decide p) = true) : ¬ p := by simpa using h
theorem filt_add {α : Type} {l : List α} (p : α → Bool) : l.length = (l.filter p).length + (l.filter fun x => !p x).length := by
  induction l with
  | nil => rfl
  | cons x l ih =>
    rw [List.filter_cons, List.filter_cons]
    cases p x <;> simp <;> omega
theorem nodup_le {α : Type} [DecidableEq α] : ∀ {l m : List α}, l.Nodup → (∀ x ∈ l, x ∈ m) → l.length ≤ m.length
  | [], _, _, _ => Nat.zero_le _
  | x :: l, m, h, k => by
    have hx : x ∈ m := k x (List.mem_cons_self ..)
    have h' := List.nodup_cons.mp h
    have := nodup_le (m := m.erase x) h'.2 fun y hy => (List.mem_erase_of_ne fun (e : y = x) => h'.1 (e ▸ hy)).mpr (k y (List.mem_cons_of_mem _ hy))
    rw [List.length_erase_of_mem hx] at this
    have := List.length_pos_of_mem hx
    simp only [List.length_cons]; omega
theorem dput_new {α : Type} {d : List (Str × α)} {k : Str} {x : α} (h : k ∉ dkeys d) : dput d k x = d ++ [(k, x)] := by
  unfold dput
  rw [if_neg]
  intro z
  obtain ⟨kv, h1, h2⟩ := List.any_eq_true.mp z
  exact h (List.mem_map.mpr ⟨kv, h1, of_decide_eq_true h2⟩)
theorem dlook_of_mem {α : Type} {d : List (Str × α)} {kv : Str × α} (nd : (dkeys d).Nodup) (h : kv ∈ d) : dlook d kv.1 = some kv.2 := by
  induction d with
  | nil => simp at h
  | cons p d ih =>
    rw [dlook_cons]
    have nd' := List.nodup_cons.mp nd
    rcases List.mem_cons.mp h with h | h
    · rw [if_pos (by rw [h]), h]
    · rw [if_neg fun e => nd'.1 (by show p.1 ∈ List.map _ d; rw [e]; exact List.mem_map.mpr ⟨kv, h, rfl⟩)]
      exact ih nd'.2 h
theorem rng_at {n : Nat} {pre post : List Int} {x : Int} (e : rng 0 n = pre ++ x :: post) : x = (pre.length : Int) ∧ pre.length < n := by
  have h : (rng 0 n)[pre.length]? = some x := by rw [e]; simp
  have hl : pre.length < n := by
    have := congrArg List.length e
    rw [rng_len] at this
    simp at this; omega
  refine ⟨?_, hl⟩
  unfold rng at h
  rw [List.getElem?_map, List.getElem?_range hl] at h
  simp at h
  exact h.symm
abbrev Cla := List (Str × Int)
abbrev Dict := List (Str × Int)
def vl (d : Dict) (n : Str) : Int := (dlook d n).getD 0
def hv (d : Dict) (c : Cla) : Bool := c.any fun l => decide (vl d l.1 = l.2)
end Sl
namespace Sl
open PySem PySem.Spec PyProof.Rows L2 Mi
/-! strict total orders, sorting by them -/
/-! the least clauses -/
end Sl
namespace Sl
open PySem PySem.Spec PyProof.Rows L2
/-! ### dicts keyed by tuples of any depth -/
abbrev EnL (L : Type) := List (L × Addr × V)
def lookN {L : Type} [DecidableEq L] (xs : EnL L) (k : L) : Option V := (xs.find? fun e => decide (e.1 = k)).map (·.2.2)
def putN {L : Type} [DecidableEq L] (xs : EnL L) (k : L) (b : Addr) (v : V) : EnL L := if (lookN xs k).isSome = true then xs.map fun e => if e.1 = k then (e.1, e.2.1, v) else e else xs ++ [(k, b, v)]
end Sl
namespace Mi
open PySem PySem.Spec PyProof.Rows L2
open Sl (isTup sz szl slt EnL)
/-! ### dicts keyed by tuples of any depth -/
abbrev NK := PySem.NestedKey
/-- what may be (a part of) a key; n: how deep -/
class NE (K : PySem.W.Frag) {κ : Type} (t : κ → Pv) (n : outParam Nat) where
  enc : κ → NK
  inj : ∀ a b, enc a = enc b → a = b
  dep : ∀ a, (enc a).depth ≤ n
  tup : ∀ a, 0 < n → ∃ ks, enc a = .tup ks
  ok : ∀ (X : Cx), X.K = K → ∀ (pins : List (Addr × Obj)) (σ : L2.St) (H : Hp) (s : Shared), L2.Inv X pins σ H s → ∀ (S : Fz) (x : κ) (v : V) (u : Value), (t x).p S H v → RelV v u → PySem.NestedIs s.heap (enc x) u
variable {K : PySem.W.Frag}
instance : NE K yStr 0 := ⟨.text, fun _ _ e => PySem.NestedKey.text.inj e, fun _ => by simp [PySem.NestedKey.depth], fun _ z => absurd z (Nat.lt_irrefl 0), fun _ _ _ _ _ _ _ _ x _ _ hv hr => by
  cases (show _ = V.str x from hv)
  obtain ⟨k, rfl⟩ := hr
  exact .text x k⟩
instance : NE K yInt 0 := ⟨.num, fun _ _ e => PySem.NestedKey.num.inj e, fun _ => by simp [PySem.NestedKey.depth], fun _ z => absurd z (Nat.lt_irrefl 0), fun _ _ _ _ _ _ _ _ x _ _ hv hr => by
  cases (show _ = V.int x from hv)
  obtain ⟨k, rfl⟩ := hr
  exact .int x k⟩
section
variable {κ κ' : Type} {t : κ → Pv} {u : κ' → Pv} {n : Nat}
/-- a tuple whose items are keys is one -/
theorem tup_key {X : Cx} (eK : X.K = K) {pins : List (Addr × Obj)} {σ : L2.St} {H : Hp} {s : Shared} (I : L2.Inv X pins σ H s) {a : Addr} {vs : List V} (h : SqT K H a vs) {ks : List NK} (g : ∀ us, Vals vs us → PySem.NestedAll s.heap ks us) {z : Value} (r : RelV (.ref a) z) : PySem.NestedIs s.heap (.tup ks) z := by
  subst eK
  obtain ⟨us, hus, ⟨o, go, co, m, dat⟩, _⟩ := I.tuple h
  cases (show z = Value.ref a from r)
  exact .tup go co dat (g us hus)
theorem items_key [N : NE K t n] {X : Cx} (eK : X.K = K) {pins : List (Addr × Obj)} {σ : L2.St} {H : Hp} {s : Shared} (I : L2.Inv X pins σ H s) {S : Fz} (xs : List κ) : ∀ vs us, PsOk S H vs (xs.map t) → Vals vs us → PySem.NestedAll s.heap (xs.map N.enc) us := by
  induction xs with
  | nil => intro vs us hp hv; cases vs <;> cases hv <;> first | exact .nil | exact hp.elim
  | cons x xs ih => intro vs us hp hv; cases hv <;> first | exact hp.elim | exact .cons (N.ok X eK pins σ H s I S x _ _ hp.1 (by assumption)) (ih _ _ hp.2 (by assumption))
theorem dep_all {f : κ → NK} (h : ∀ x, (f x).depth ≤ n) : ∀ xs : List κ, PySem.NestedKey.depthAll (xs.map f) ≤ n
  | [] => by simp [PySem.NestedKey.depthAll]
  | x :: xs => by simp only [List.map_cons, PySem.NestedKey.depthAll]; exact Nat.max_le.mpr ⟨h x, dep_all h xs⟩
theorem enc_list {f : κ → NK} (h : ∀ a b, f a = f b → a = b) : ∀ xs ys : List κ, xs.map f = ys.map f → xs = ys := fun _ _ e => (List.map_inj_right h).mp e
theorem dep2 {a b : NK} (ha : a.depth ≤ n) (hb : b.depth ≤ n) : (PySem.NestedKey.tup [a, b]).depth ≤ n + 1 := by
  rw [PySem.NestedKey.depth, PySem.NestedKey.depthAll, PySem.NestedKey.depthAll, PySem.NestedKey.depthAll]
  omega
theorem pair_key [N : NE K t n] [M : NE K u n] {X : Cx} (eK : X.K = K) {pins : List (Addr × Obj)} {σ : L2.St} {H : Hp} {s : Shared} (I : L2.Inv X pins σ H s) {S : Fz} {x : κ × κ'} {v : V} {z : Value} (hv : (yPr K t u x).p S H v) (r : RelV v z) : PySem.NestedIs s.heap (.tup [N.enc x.1, M.enc x.2]) z := by
  obtain ⟨a, vs, rfl, hq, hp, _⟩ := hv
  refine tup_key eK I hq (fun us hu => ?_) r
  cases hu with
  | nil => exact hp.elim
  | cons r1 h1 => cases h1 with
    | nil => exact hp.2.elim
    | cons r2 h2 => cases h2 with
      | nil => exact .cons (N.ok X eK pins σ H s I S _ _ _ hp.1 r1) (.cons (M.ok X eK pins σ H s I S _ _ _ hp.2.1 r2) .nil)
      | cons _ _ => exact hp.2.2.elim
theorem enc2 [N : NE K t n] [M : NE K u n] {a b : κ × κ'} (e : PySem.NestedKey.tup [N.enc a.1, M.enc a.2] = .tup [N.enc b.1, M.enc b.2]) : a = b := by
  have e := PySem.NestedKey.tup.inj e
  exact Prod.ext (N.inj _ _ (List.cons.inj e).1) (M.inj _ _ (List.cons.inj (List.cons.inj e).2).1)
instance nePr [N : NE K t n] [M : NE K u n] : NE K (yPr K t u) (n + 1) where
  enc x := .tup [N.enc x.1, M.enc x.2]
  inj _ _ e := enc2 e
  dep x := dep2 (N.dep x.1) (M.dep x.2)
  tup _ _ := ⟨_, rfl⟩
  ok _ eK _ _ _ _ I _ _ _ _ hv r := pair_key eK I hv r
instance neTup [N : NE K t n] : NE K (yTup K t) (n + 1) := ⟨fun xs => .tup (xs.map N.enc), fun a b e => enc_list N.inj _ _ (PySem.NestedKey.tup.inj e), fun xs => Nat.succ_le_succ (dep_all N.dep xs), fun _ _ => ⟨_, rfl⟩, fun X eK pins σ H s I S xs v z hv r => by
  obtain ⟨a, vs, rfl, hq, hp, _⟩ := hv
  exact tup_key eK I hq (items_key eK I xs vs · hp ·) r⟩
end
section
variable {κ α : Type} {n : Nat}
def NdOk (K : PySem.W.Frag) (S : Fz) (H : Hp) (t : κ → Pv) [N : NE K t (n + 1)] (u : α → Pv) : EnL NK → List (κ × α) → Prop
  | [], [] => True
  | e :: es, p :: ps => (e.1 = N.enc p.1 ∧ (t p.1).p S H (.ref e.2.1) ∧ (u p.2).p S H e.2.2) ∧ NdOk K S H t u es ps
  | _, _ => False
variable {t : κ → Pv} [N : NE K t (n + 1)] {u : α → Pv} {S S' : Fz} {H H' : Hp}
theorem NdOk.up (l : Le S H S' H') : ∀ {es : EnL NK} {d : List (κ × α)}, NdOk K S H t u es d → NdOk K S' H' t u es d
  | [], [], _ => trivial
  | [], _ :: _, h => False.elim h
  | _ :: _, [], h => False.elim h
  | e :: es, p :: d, h => ⟨⟨h.1.1, (t p.1).up l h.1.2.1, (u p.2).up l h.1.2.2⟩, NdOk.up l h.2⟩
theorem NdOk.len : ∀ {es : EnL NK} {d : List (κ × α)}, NdOk K S H t u es d → es.length = d.length
  | [], [], _ => rfl
  | [], _ :: _, h => False.elim h
  | _ :: _, [], h => False.elim h
  | e :: es, p :: d, h => congrArg Nat.succ (NdOk.len h.2)
theorem NdOk.at : ∀ {es : EnL NK} {d : List (κ × α)} {j : Nat} {e : NK × Addr × V}, NdOk K S H t u es d → es[j]? = some e → ∃ p, d[j]? = some p ∧ (t p.1).p S H (.ref e.2.1)
  | [], _, _, _, _, he => by simp at he
  | _ :: _, [], _, _, h, _ => False.elim h
  | e :: es, p :: d, 0, e', h, he => by cases he; exact ⟨p, rfl, h.1.2.1⟩
  | e :: es, p :: d, j + 1, e', h, he => NdOk.at (j := j) h.2 he
variable [DecidableEq κ]
theorem NdOk.look {k : κ} : ∀ {es : EnL NK} {d : List (κ × α)}, NdOk K S H t u es d → (∀ x, dlook d k = some x → ∃ v, Sl.lookN es (N.enc k) = some v ∧ (u x).p S H v) ∧ (dlook d k = none → Sl.lookN es (N.enc k) = none)
  | [], [], _ => ⟨fun x h => by simp [dlook] at h, fun _ => rfl⟩
  | [], _ :: _, h => False.elim h
  | _ :: _, [], h => False.elim h
  | e :: es, (k', x') :: d, h => by
    obtain ⟨i1, i2⟩ := NdOk.look (k := k) h.2
    by_cases z : k' = k
    · have z' : e.1 = N.enc k := by rw [h.1.1]; exact congrArg _ z
      have e1 : dlook ((k', x') :: d) k = some x' := by simp [dlook, List.find?_cons, z]
      have e2 : Sl.lookN (e :: es) (N.enc k) = some e.2.2 := by simp [Sl.lookN, List.find?_cons, z']
      rw [e1, e2]
      exact ⟨fun x hx => by cases hx; exact ⟨_, rfl, h.1.2.2⟩, fun z => by cases z⟩
    · have z' : ¬ e.1 = N.enc k := by rw [h.1.1]; exact fun q => z (N.inj _ _ q)
      have e1 : dlook ((k', x') :: d) k = dlook d k := by simp [dlook, List.find?_cons, z]
      have e2 : Sl.lookN (e :: es) (N.enc k) = Sl.lookN es (N.enc k) := by simp [Sl.lookN, List.find?_cons, z']
      rw [e1, e2]
      exact ⟨i1, i2⟩
theorem NdOk.has {k : κ} {es : EnL NK} {d : List (κ × α)} (h : NdOk K S H t u es d) : (Sl.lookN es (N.enc k)).isSome = dhas d k := by
  obtain ⟨h1, h2⟩ := h.look (k := k)
  unfold dhas
  cases e : dlook d k with
  | none => rw [h2 e]; rfl
  | some y => obtain ⟨v, e', _⟩ := h1 y e; rw [e']; rfl
theorem NdOk.put {k : κ} {y : α} {v : V} {b : Addr} {es : EnL NK} {d : List (κ × α)} (h : NdOk K S H t u es d) (hk : (t k).p S H (.ref b)) (hv : (u y).p S H v) : NdOk K S H t u (Sl.putN es (N.enc k) b v) (dput d k y) := by
  have any : (d.any fun kv => decide (kv.1 = k)) = (Sl.lookN es (N.enc k)).isSome := by
    rw [h.has (k := k)]
    unfold dhas dlook
    clear h
    induction d with
    | nil => rfl
    | cons p d ih =>
      by_cases z : p.1 = k
      · simp [List.find?_cons, z]
      · simp only [List.any_cons, List.find?_cons, z, decide_false, Bool.false_or]
        exact ih
  unfold Sl.putN dput
  rw [any]
  by_cases z : (Sl.lookN es (N.enc k)).isSome = true
  · rw [if_pos z, if_pos z]
    clear z any
    induction es generalizing d with
    | nil => cases d with
      | nil => trivial
      | cons p d => exact False.elim h
    | cons e es ih => cases d with
      | nil => exact False.elim h
      | cons p d =>
        refine ⟨?_, ih h.2⟩
        by_cases q : p.1 = k
        · have q' : e.1 = N.enc k := by rw [h.1.1, q]
          dsimp only
          rw [if_pos q', if_pos q]
          exact ⟨h.1.1, h.1.2.1, hv⟩
        · have q' : ¬ e.1 = N.enc k := by rw [h.1.1]; exact fun z => q (N.inj _ _ z)
          dsimp only
          rw [if_neg q', if_neg q]
          exact h.1
  · rw [if_neg z, if_neg z]
    clear z any
    induction es generalizing d with
    | nil => cases d with
      | nil => exact ⟨⟨rfl, hk, hv⟩, trivial⟩
      | cons p d => exact False.elim h
    | cons e es ih => cases d with
      | nil => exact False.elim h
      | cons p d => exact ⟨h.1, ih h.2⟩
end
/-! ### a dict that is walked in a comprehension -/
end Mi
namespace Sl
open PySem PySem.Spec PyProof.Rows L2
section
/-- a call of a method that raises nothing: the library's reading of it (pe_meth), as tMethO puts it -/
theorem methO_of {X : Cx} {ex : Expr} {C : Addr} {m : Str} {sp : Sp} {dvs : List V} {E : XK} {ta : TE} {t : TA} (h : PE X ex (tMeth C m sp dvs E ta t)) : PE X ex (tMethO C m sp dvs (fun _ => E) ta t) := ⟨h.run⟩
end
end Sl
namespace Sl
open PySem PySem.Spec PyProof.Rows L2 Mi
def f_Steps_names_in (self : Unit) (constraint : (Str × Str × Int)) : ((List Str)) := (([constraint.1, constraint.2.1].filter fun q1 => (!decide (q1 = ("" : Str)))).map fun q1 => q1)
def f_Kind_is_valid (self : Unit) (names : (List Str)) (constraint : (Str × Str × Int)) : Res (Bool) := Res.noerr (((pfor (fun (s1 : Unit) (q1 : Str) => ((if (!decide (q1 ∈ names)) then .ok (.rt false) else .ok (.nx ())) : Res (Fl Unit (Bool)))) () (f_Steps_names_in self constraint)).thn (fun s1 => .ok true) (fun ρ => .ok ρ)))
def f_Steps_is_valid (self : Unit) (names : (List Str)) (constraint : (Str × Str × Int)) : Res (Bool) := Res.noerr ((f_Kind_is_valid self names constraint).bind fun r1 => .ok (r1 && ((!decide (constraint.1 = constraint.2.1)) || (decide (constraint.1 = ("" : Str))))))
def f_value_of (assignment : (List (Str × Int))) (name : Str) : Res (Int) := Res.noerr (((((if (decide (name = ("" : Str))) then .ok ((0 : Int), ()) else ((pdget assignment name).bind fun r1 => .ok (r1, ()))) : Res (Int × Unit))).bind fun r2 => .ok r2.1))
def f_Steps_holds (self : Unit) (constraint : (Str × Str × Int)) (assignment : (List (Str × Int))) : Res (Bool) := Res.noerr (((f_value_of assignment constraint.1).bind fun r1 => (f_value_of assignment constraint.2.1).bind fun r2 => .ok (decide ((r1 - r2) ≤ constraint.2.2))))
def f_Steps_contradiction (self : Unit) : ((Str × Str × Int)) := (("" : Str), ("" : Str), (-(1 : Int)))
def f_merge_names (lists : (List (List Str))) : Res ((List Str)) := Res.noerr (lt ([] : (List (Str × Bool))) fun found : (List (Str × Bool)) => ((pfold (fun (s1 : ((List (Str × Bool)))) (q1 : (List Str)) => (((pfold (fun (s2 : ((List (Str × Bool)))) (q2 : Str) => (((pdput s2 q2 true).bind fun d1 => .ok (d1)) : Res ((List (Str × Bool))))) (s1) q1).bind fun s2 => .ok (s2)) : Res ((List (Str × Bool))))) (found) lists).bind fun s1 => ((psortS (dkeys s1)).bind fun r1 => .ok (sortS (dkeys s1)))))
def f_Steps_rename (self : Unit) (theory : ((List Str) × (List (Str × Str × Int)))) (table : (List (Str × Str))) : Res (((List Str) × (List (Str × Str × Int)))) := Res.noerr (((f_merge_names ([(theory.1.map fun q1 => (dgetD table q1 q1))] : List (List Str))).bind fun r1 => lt r1 fun names : (List Str) => .ok (names, (theory.2.map fun q2 => ((dgetD table q2.1 q2.1), (dgetD table q2.2.1 q2.2.1), q2.2.2)))))
def f_Steps_lift (self : Unit) (theory : ((List Str) × (List (Str × Str × Int)))) (name : Str) (assignment : (List (Str × Int))) : Res (Int) := lt ([] : List Int) fun lows : (List Int) => lt ([] : List Int) fun highs : (List Int) => ((pfold (fun (s1 : ((List Int) × (List Int))) (q1 : (Str × Str × Int)) => ((if (decide (q1.2.1 = name)) then ((f_value_of assignment q1.1).bind fun r1 => (psnoc s1.1 (r1 - q1.2.2)).bind fun z1 => .ok (z1, s1.2)) else (if (decide (q1.1 = name)) then ((f_value_of assignment q1.2.1).bind fun r2 => (psnoc s1.2 (r2 + q1.2.2)).bind fun z2 => .ok (s1.1, z2)) else ((f_Steps_holds self (q1.1, q1.2.1, q1.2.2) assignment).bind fun r3 => (if (!r3) then (.err ⟨3, .no⟩) else .ok (s1.1, s1.2))))) : Res ((List Int) × (List Int)))) (lows, highs) theory.2).bind fun s1 => (if (decide ((s1.1.length : Int) = (0 : Int))) then .ok (pminD s1.2 (0 : Int)) else ((((if (decide ((0 : Int) < (s1.2.length : Int))) then ((pmaxI s1.1).bind fun r4 => (pminI s1.2).bind fun r5 => .ok ((decide (r5 < r4)), ())) else .ok (false, ())) : Res (Bool × Unit))).bind fun r6 => (if r6.1 then (.err ⟨3, .no⟩) else ((pmaxI s1.1).bind fun r7 => .ok r7)))))
def f_Steps_ground (self : Unit) (theory : ((List Str) × (List (Str × Str × Int)))) : Res ((Option (List (Str × Int)))) := Res.noerr (((pml (fun q1 : (Str × Str × Int) => (((f_Steps_holds self q1 ([] : (List (Str × Int)))).bind fun r1 => .ok (some r1)) : Res (Option Bool))) theory.2).bind fun r2 => (if (r2.all id) then .ok (some ([] : (List (Str × Int)))) else .ok (none : (Option (List (Str × Int)))))))
def f_Steps_pin (self : Unit) (names : (List Str)) (assignment : (List (Str × Int))) : Res (((List Str) × (List (Str × Str × Int)))) := Res.noerr (lt ([] : List (Str × Str × Int)) fun constraints : (List (Str × Str × Int)) => ((pfold (fun (s1 : ((List (Str × Str × Int)))) (q1 : Str) => (((pdget assignment q1).bind fun r1 => (psnoc s1 (q1, ("" : Str), r1)).bind fun z1 => ((pdget assignment q1).bind fun r2 => (psnoc z1 (("" : Str), q1, (-r2))).bind fun z2 => .ok (z2))) : Res ((List (Str × Str × Int))))) (constraints) names).bind fun s1 => .ok (names, s1)))
def f__law_source (_law_script : (List Int)) (_law_k : Int) : Res ((List Int)) := Res.noerr (lt (0 : Int) fun _law_number : Int => (((if (decide (_law_k < (_law_script.length : Int))) then ((pidx _law_script _law_k).bind fun r1 => lt r1 fun _law_number : Int => .ok (_law_number)) else .ok (_law_number)) : Res (Int)).bind fun s1 => .ok ([s1, (((100 : Int) * _law_k) + (_law_script.length : Int))] : List Int)))
def f__law_draw (_law_source_here : (List Int)) (_law_limit : Int) : Res (Int × (List Int)) := Res.noerr (((pidx _law_source_here (0 : Int)).bind fun r1 => lt r1 fun _law_number : Int => (if (decide (((10 : Int) ^ ((18 : Int)).toNat) ≤ _law_number)) then ((pdiv _law_number _law_limit).bind fun r2 => (pset _law_source_here (0 : Int) r2).bind fun z1 => ((pmod _law_number _law_limit).bind fun r3 => .ok (r3, z1))) else ((pidx _law_source_here (1 : Int)).bind fun r4 => (pset _law_source_here (1 : Int) (r4 + (1 : Int))).bind fun z2 => ((pidx z2 (1 : Int)).bind fun r5 => lt ((((_law_number * (48271 : Int)) + (r5 * (69621 : Int))) + (7 : Int)) % (2147483647 : Int)) fun _law_mixed : Int => ((pmul _law_mixed _law_mixed).bind fun r6 => (pidx z2 (1 : Int)).bind fun r7 => lt (((r6 + _law_number) + (r7 * (40692 : Int))) % (2147483629 : Int)) fun _law_mixed : Int => ((pmul _law_mixed _law_mixed).bind fun r8 => lt (((r8 + (_law_mixed / (4096 : Int))) + (12345 : Int)) % (2147483587 : Int)) fun _law_mixed : Int => ((pmod (_law_mixed / (64 : Int)) _law_limit).bind fun r9 => .ok (r9, z2)))))))))
def f__law_some (_law_source_here : (List Int)) (_law_names : (List Str)) (_law_most : Int) : Res ((List Str) × (List Int)) := Res.noerr (lt ([] : List Str) fun _law_found : (List Str) => ((pfold (fun (s1 : ((List Int) × (List Str))) (q1 : Str) => (((((if (decide ((s1.2.length : Int) < _law_most)) then ((f__law_draw s1.1 (3 : Int)).bind fun r1 => .ok ((decide ((0 : Int) < r1.1)), (r1.2))) else .ok (false, (s1.1))) : Res (Bool × ((List Int))))).bind fun r2 => (if r2.1 then ((psnoc s1.2 q1).bind fun z1 => .ok (r2.2, z1)) else .ok (r2.2, s1.2))) : Res ((List Int) × (List Str)))) (_law_source_here, _law_found) _law_names).bind fun s1 => .ok (s1.2, s1.1)))
def f__law_bound (_law_source_here : (List Int)) : Res (Int × (List Int)) := Res.noerr (((f__law_draw _law_source_here (4 : Int)).bind fun r1 => (if (decide (r1.1 = (0 : Int))) then ((f__law_draw r1.2 (199 : Int)).bind fun r2 => .ok ((r2.1 - (99 : Int)), r2.2)) else ((f__law_draw r1.2 (9 : Int)).bind fun r3 => .ok ((r3.1 - (4 : Int)), r3.2)))))
def f__law_constraint (_law_source_here : (List Int)) (_law_names : (List Str)) : Res ((Str × Str × Int) × (List Int)) := Res.noerr (((pcat ([("" : Str)] : List Str) _law_names).bind fun r1 => lt (([("" : Str)] : List Str) ++ _law_names) fun _law_ends : (List Str) => ((f__law_draw _law_source_here (_law_ends.length : Int)).bind fun r2 => (pidx _law_ends r2.1).bind fun r3 => lt r3 fun _law_x : Str => ((f__law_draw r2.2 (_law_ends.length : Int)).bind fun r4 => (pidx _law_ends r4.1).bind fun r5 => lt r5 fun _law_y : Str => (((if ((decide (_law_x = _law_y)) && (!decide (_law_x = ("" : Str)))) then lt ("" : Str) fun _law_y : Str => .ok (_law_y) else .ok (_law_y)) : Res (Str)).bind fun s1 => ((f__law_bound r4.2).bind fun r6 => .ok ((_law_x, s1, r6.1), r6.2)))))))
def f__law_theory (_law_source_here : (List Int)) : Res (((List Str) × (List (Str × Str × Int))) × (List Int)) := Res.noerr (lt ([("a" : Str), ("a1" : Str), ("b" : Str), ("b.c" : Str), ("c" : Str), ("d" : Str), ("x9" : Str), ("zz" : Str)] : List Str) fun _law_pool : (List Str) => ((f__law_draw _law_source_here (4 : Int)).bind fun r1 => (f__law_draw r1.2 (5 : Int)).bind fun r2 => (f__law_some r2.2 (pcut _law_pool (some r1.1) none) r2.1).bind fun r3 => lt r3.1 fun _law_names : (List Str) => lt ([] : List (Str × Str × Int)) fun _law_constraints : (List (Str × Str × Int)) => ((f__law_draw r3.2 (9 : Int)).bind fun r4 => ((guard (-40000 ≤ r4.1 ∧ r4.1 ≤ 40000))).bind fun r5 => ((pfold (fun (s1 : ((List Int) × (List (Str × Str × Int)))) (q1 : Int) => (((f__law_constraint s1.1 _law_names).bind fun r6 => (psnoc s1.2 r6.1).bind fun z1 => .ok (r6.2, z1)) : Res ((List Int) × (List (Str × Str × Int))))) (r4.2, _law_constraints) (rng 0 (r4.1).toNat)).bind fun s1 => .ok ((_law_names, s1.2), s1.1)))))
def f__law_value (_law_values : (List (Str × Int))) (_law_name : Str) : Res (Int) := Res.noerr ((if (decide (_law_name = ("" : Str))) then .ok (0 : Int) else ((pdget _law_values _law_name).bind fun r1 => .ok r1)))
def f__law_same (_law_actual : (List (Str × Int))) (_law_expected : (List (Str × Int))) : Res (Bool) := Res.noerr (((((if (!true) then .ok (true, ()) else ((psortS (dkeys _law_actual)).bind fun r1 => (psortS (dkeys _law_expected)).bind fun r2 => .ok ((!decide ((sortS (dkeys _law_actual)) = (sortS (dkeys _law_expected)))), ()))) : Res (Bool × Unit))).bind fun r3 => (if r3.1 then .ok false else ((pfor (fun (s2 : Unit) (q1 : Str) => (((pdget _law_actual q1).bind fun r4 => (((if (!true) then .ok (true, ()) else ((pdget _law_actual q1).bind fun r5 => (((if false then .ok (true, ()) else ((pdget _law_actual q1).bind fun r6 => (pdget _law_expected q1).bind fun r7 => .ok ((!decide (r6 = r7)), ()))) : Res (Bool × Unit))).bind fun r8 => .ok (r8.1, ()))) : Res (Bool × Unit))).bind fun r9 => (if r9.1 then .ok (.rt false) else .ok (.nx ()))) : Res (Fl Unit (Bool)))) () (dkeys _law_expected)).thn (fun s2 => .ok true) (fun ρ => .ok ρ)))))
def f__law_valid_right (_law_source_here : (List Int)) (_law_names : (List Str)) : Res (Bool × (List Int)) := Res.noerr (((pcat ([("" : Str), ("a" : Str), ("b" : Str), ("zz" : Str), ("k" : Str), ("x9" : Str)] : List Str) _law_names).bind fun r1 => (pcat (([("" : Str), ("a" : Str), ("b" : Str), ("zz" : Str), ("k" : Str), ("x9" : Str)] : List Str) ++ _law_names) _law_names).bind fun r2 => lt ((([("" : Str), ("a" : Str), ("b" : Str), ("zz" : Str), ("k" : Str), ("x9" : Str)] : List Str) ++ _law_names) ++ _law_names) fun _law_ends : (List Str) => ((f__law_draw _law_source_here (_law_ends.length : Int)).bind fun r3 => (pidx _law_ends r3.1).bind fun r4 => lt r4 fun _law_x : Str => ((f__law_draw r3.2 (_law_ends.length : Int)).bind fun r5 => (pidx _law_ends r5.1).bind fun r6 => lt r6 fun _law_y : Str => ((((f__law_draw r5.2 (4 : Int)).bind fun r7 => ((if (decide (r7.1 = (0 : Int))) then lt _law_x fun _law_y : Str => .ok (r7.2, _law_y) else .ok (r7.2, _law_y)) : Res ((List Int) × Str)))).bind fun s1 => lt (((decide (_law_x = ("" : Str))) || (decide (_law_x ∈ _law_names))) && (((decide (s1.2 = ("" : Str))) || (decide (s1.2 ∈ _law_names))) && ((!decide (_law_x = s1.2)) || (decide (_law_x = ("" : Str)))))) fun _law_expected : Bool => ((f__law_bound s1.1).bind fun r8 => lt (_law_x, s1.2, r8.1) fun _law_constraint_here : (Str × Str × Int) => ((f_Steps_is_valid () _law_names _law_constraint_here).bind fun r9 => lt r9 fun _law_actual : Bool => (if ((!true) || (!decide (_law_actual = _law_expected))) then .ok (false, r8.2) else (if (!_law_expected) then .ok (true, r8.2) else .ok ((decide ((f_Steps_names_in () _law_constraint_here) = ((([_law_x, s1.2] : List Str).filter fun q1 => (!decide (q1 = ("" : Str)))).map fun q1 => q1))), r8.2))))))))))
def f__law_holds_right (_law_source_here : (List Int)) (_law_names : (List Str)) : Res (Bool × (List Int)) := Res.noerr (lt ([] : (List (Str × Int))) fun _law_values : (List (Str × Int)) => ((pfold (fun (s1 : ((List Int) × (List (Str × Int)))) (q1 : Str) => (((f__law_draw s1.1 (81 : Int)).bind fun r1 => (pdput s1.2 q1 (r1.1 - (40 : Int))).bind fun d1 => .ok (r1.2, d1)) : Res ((List Int) × (List (Str × Int))))) (_law_source_here, _law_values) _law_names).bind fun s1 => ((psortS (dkeys s1.2)).bind fun r2 => (pml (fun q2 : Str => (((pdget s1.2 q2).bind fun r3 => .ok (some (q2, r3))) : Res (Option (Str × Int)))) (sortS (dkeys s1.2))).bind fun r4 => lt r4 fun _law_before : (List (Str × Int)) => ((f__law_constraint s1.1 _law_names).bind fun r5 => lt r5.1.1 fun _law_x : Str => ((f__law_constraint r5.2 _law_names).bind fun r6 => lt r6.1.2.1 fun _law_y : Str => (((if (decide (_law_x = _law_y)) then lt ("" : Str) fun _law_x : Str => lt ("" : Str) fun _law_y : Str => .ok (_law_x, _law_y) else .ok (_law_x, _law_y)) : Res (Str × Str)).bind fun s2 => ((f__law_value s1.2 s2.1).bind fun r7 => (f__law_value s1.2 s2.2).bind fun r8 => lt (r7 - r8) fun _law_difference : Int => (((guard (-40000 ≤ (3 : Int) ∧ (3 : Int) ≤ 40000))).bind fun r9 => ((pfor (fun (s3 : Unit) (q3 : Int) => (((f_Steps_holds () (s2.1, s2.2, ((_law_difference + q3) - (1 : Int))) s1.2).bind fun r10 => lt r10 fun _law_actual : Bool => (if ((!true) || (!decide (_law_actual = (decide ((0 : Int) < q3))))) then .ok (.rt (false, r6.2)) else .ok (.nx ()))) : Res (Fl Unit (Bool × (List Int))))) () (rng 0 ((3 : Int)).toNat)).thn (fun s3 => ((f_Steps_holds () (s2.1, s2.2, ((0 : Int) - _law_difference)) s1.2).bind fun r11 => lt r11 fun _law_actual : Bool => (if (!decide (_law_actual = (decide (((2 : Int) * _law_difference) ≤ (0 : Int))))) then .ok (false, r6.2) else ((psortS (dkeys s1.2)).bind fun r12 => (pml (fun q4 : Str => (((pdget s1.2 q4).bind fun r13 => .ok (some (q4, r13))) : Res (Option (Str × Int)))) (sortS (dkeys s1.2))).bind fun r14 => .ok ((decide (r14 = _law_before)), r6.2))))) (fun ρ => .ok ρ))))))))))
def f__law_rename_right (_law_source_here : (List Int)) (_law_theory_here : ((List Str) × (List (Str × Str × Int)))) : Res (Bool × (List Int)) := Res.noerr (((f__law_some _law_source_here _law_theory_here.1 (2 : Int)).bind fun r1 => lt r1.1 fun _law_kept : (List Str) => lt ([("a" : Str), ("b" : Str), ("b.c" : Str), ("c1" : Str), ("d" : Str), ("k" : Str), ("n.m" : Str), ("q" : Str), ("x9" : Str), ("y" : Str), ("zz" : Str)] : List Str) fun _law_wide : (List Str) => ((f__law_draw r1.2 (11 : Int)).bind fun r2 => lt r2.1 fun _law_start : Int => ((f__law_draw r2.2 (10 : Int)).bind fun r3 => lt ((1 : Int) + r3.1) fun _law_step : Int => (((guard (-40000 ≤ (11 : Int) ∧ (11 : Int) ≤ 40000))).bind fun r4 => (pml (fun q1 : Int => (((pmul q1 _law_step).bind fun r5 => (pidx _law_wide ((_law_start + r5) % (11 : Int))).bind fun r6 => .ok (some r6)) : Res (Option Str))) (rng 0 ((11 : Int)).toNat)).bind fun r7 => lt r7 fun _law_order : (List Str) => lt ((_law_order.filter fun q2 => (!decide (q2 ∈ _law_kept))).map fun q2 => q2) fun _law_free : (List Str) => lt ([] : (List (Str × Str))) fun _law_table : (List (Str × Str)) => lt ((_law_theory_here.1.filter fun q3 => (!decide (q3 ∈ _law_kept))).map fun q3 => q3) fun _law_moved : (List Str) => (((guard (-40000 ≤ (_law_moved.length : Int) ∧ (_law_moved.length : Int) ≤ 40000))).bind fun r8 => ((pfold (fun (s1 : ((List (Str × Str)))) (q4 : Int) => (((pidx _law_free q4).bind fun r9 => (pidx _law_moved q4).bind fun r10 => (if (!decide (r9 = r10)) then ((pidx _law_free q4).bind fun r11 => (pidx _law_moved q4).bind fun r12 => (pdput s1 r12 r11).bind fun d1 => .ok (d1)) else .ok (s1))) : Res ((List (Str × Str))))) (_law_table) (rng 0 ((_law_moved.length : Int)).toNat)).bind fun s1 => ((psortS (dkeys s1)).bind fun r13 => (pml (fun q5 : Str => (((pdget s1 q5).bind fun r14 => .ok (some (q5, r14))) : Res (Option (Str × Str)))) (sortS (dkeys s1))).bind fun r15 => lt r15 fun _law_before : (List (Str × Str)) => ((psortS (_law_theory_here.1.map fun q6 => (dgetD s1 q6 q6))).bind fun r16 => lt (sortS (_law_theory_here.1.map fun q6 => (dgetD s1 q6 q6))) fun _law_names : (List Str) => lt (_law_theory_here.2.map fun q7 => ((dgetD s1 q7.1 q7.1), (dgetD s1 q7.2.1 q7.2.1), q7.2.2)) fun _law_constraints : (List (Str × Str × Int)) => ((f_Steps_rename () _law_theory_here s1).bind fun r17 => (if (!decide (r17 = (_law_names, _law_constraints))) then .ok (false, r3.2) else ((psortS (dkeys s1)).bind fun r18 => (pml (fun q8 : Str => (((pdget s1 q8).bind fun r19 => .ok (some (q8, r19))) : Res (Option (Str × Str)))) (sortS (dkeys s1))).bind fun r20 => .ok ((decide (r20 = _law_before)), r3.2)))))))))))))
def f__law_pin_right (_law_source_here : (List Int)) (_law_names : (List Str)) : Res (Bool × (List Int)) := Res.noerr (lt ([] : (List (Str × Int))) fun _law_values : (List (Str × Int)) => lt ([] : List (Str × Str × Int)) fun _law_expected : (List (Str × Str × Int)) => ((pfold (fun (s1 : ((List Int) × (List (Str × Int)) × (List (Str × Str × Int)))) (q1 : Str) => (((f__law_draw s1.1 (81 : Int)).bind fun r1 => lt (r1.1 - (40 : Int)) fun _law_value_here : Int => ((pdput s1.2.1 q1 _law_value_here).bind fun d1 => ((psnoc s1.2.2 (q1, ("" : Str), _law_value_here)).bind fun z1 => ((psnoc z1 (("" : Str), q1, ((0 : Int) - _law_value_here))).bind fun z2 => .ok (r1.2, d1, z2))))) : Res ((List Int) × (List (Str × Int)) × (List (Str × Str × Int))))) (_law_source_here, _law_values, _law_expected) _law_names).bind fun s1 => ((f_Steps_pin () _law_names s1.2.1).bind fun r2 => lt r2 fun _law_actual : ((List Str) × (List (Str × Str × Int))) => ((((if (!decide (_law_actual = (_law_names, s1.2.2))) then .ok (true, ()) else ((psortS (dkeys s1.2.1)).bind fun r3 => .ok ((!decide ((sortS (dkeys s1.2.1)) = _law_names)), ()))) : Res (Bool × Unit))).bind fun r4 => (if r4.1 then .ok (false, s1.1) else ((pfor (fun (s3 : Unit) (q2 : (Str × Str × Int)) => ((if ((!true) || false) then .ok (.rt (false, s1.1)) else .ok (.nx ())) : Res (Fl Unit (Bool × (List Int))))) () _law_actual.2).thn (fun s3 => .ok (true, s1.1)) (fun ρ => .ok ρ)))))))
def f__law_ground_right (_law_source_here : (List Int)) : Res (Bool × (List Int)) := Res.noerr (((f__law_draw _law_source_here (4 : Int)).bind fun r1 => ((guard (-40000 ≤ r1.1 ∧ r1.1 ≤ 40000))).bind fun r2 => (plc (fun (s2 : ((List Int))) (q1 : Int) => (((f__law_draw s2 (6 : Int)).bind fun r3 => .ok (some (r3.1 - (1 : Int)), (r3.2))) : Res (Option Int × ((List Int))))) (r1.2) (rng 0 (r1.1).toNat)).bind fun r4 => lt r4.1 fun _law_bounds : (List Int) => ((((f__law_draw r4.2 (2 : Int)).bind fun r5 => ((if (decide (r5.1 = (0 : Int))) then lt (_law_bounds.map fun q2 => (q2 + (1 : Int))) fun _law_bounds : (List Int) => .ok (r5.2, _law_bounds) else .ok (r5.2, _law_bounds)) : Res ((List Int) × (List Int))))).bind fun s3 => ((f_Steps_ground () (([] : (List Str)), (s3.2.map fun q3 => (("" : Str), ("" : Str), q3)))).bind fun r6 => lt r6 fun _law_actual : (Option (List (Str × Int))) => (if (decide ((0 : Int) < (((s3.2.filter fun q4 => (decide (q4 < (0 : Int)))).map fun q4 => q4).length : Int))) then .ok ((_law_actual.isNone), s3.1) else ((punwrap _law_actual).bind fun r7 => (f__law_same r7 ([] : (List (Str × Int)))).bind fun r8 => .ok (r8, s3.1)))))))
def f__law_first (_law_theory_here : ((List Str) × (List (Str × Str × Int)))) (_law_name : Str) (_law_values : (List (Str × Int))) : Res ((Option Int)) := Res.noerr (lt ([] : List Int) fun _law_lows : (List Int) => lt ([] : List Int) fun _law_highs : (List Int) => ((pfor (fun (s1 : ((List Int) × (List Int))) (q1 : (Str × Str × Int)) => ((if (decide (q1.1 = _law_name)) then ((f__law_value _law_values q1.2.1).bind fun r1 => (psnoc s1.2 (r1 + q1.2.2)).bind fun z1 => .ok (.nx (s1.1, z1))) else (if (decide (q1.2.1 = _law_name)) then ((f__law_value _law_values q1.1).bind fun r2 => (psnoc s1.1 (r2 - q1.2.2)).bind fun z2 => .ok (.nx (z2, s1.2))) else ((f__law_value _law_values q1.1).bind fun r3 => (f__law_value _law_values q1.2.1).bind fun r4 => (if (decide (q1.2.2 < (r3 - r4))) then .ok (.rt (none : (Option Int))) else .ok (.nx (s1.1, s1.2)))))) : Res (Fl ((List Int) × (List Int)) ((Option Int))))) (_law_lows, _law_highs) _law_theory_here.2).thn (fun s1 => (((if (decide ((0 : Int) < (s1.1.length : Int))) then ((pmaxI s1.1).bind fun r5 => lt r5 fun _law_value_here : Int => .ok (_law_value_here)) else (((if (decide ((0 : Int) < (s1.2.length : Int))) then ((pminI s1.2).bind fun r6 => lt r6 fun _law_value_here : Int => .ok (_law_value_here)) else lt (0 : Int) fun _law_value_here : Int => .ok (_law_value_here)) : Res (Int)).bind fun s2 => .ok (s2))) : Res (Int)).bind fun s3 => ((pfor (fun (s4 : Unit) (q2 : Int) => ((if (decide (q2 < s3)) then .ok (.rt (none : (Option Int))) else .ok (.nx ())) : Res (Fl Unit ((Option Int))))) () s1.2).thn (fun s4 => .ok (some s3)) (fun ρ => .ok ρ)))) (fun ρ => .ok ρ)))
def f__law_lifted (_law_theory_here : ((List Str) × (List (Str × Str × Int)))) (_law_name : Str) (_law_values : (List (Str × Int))) (_law_expected : (Option Int)) : Res (Bool) := Res.noerr ((ptry (((f_Steps_lift () _law_theory_here _law_name _law_values).bind fun r1 => .ok r1)) (fun _law_actual => (if ((_law_expected.isNone) || ((!true) || false)) then .ok false else ((punwrap _law_expected).bind fun r2 => .ok (decide (_law_actual = r2))))) 3 (.ok ((_law_expected.isNone) && true))))
def f__law_lift_right (_law_source_here : (List Int)) (_law_theory_here : ((List Str) × (List (Str × Str × Int)))) : Res (Bool × (List Int)) := Res.noerr (((pfor (fun (s1 : ((List Int))) (q1 : Str) => (lt ([] : (List (Str × Int))) fun _law_values : (List (Str × Int)) => ((pfold (fun (s2 : ((List Int) × (List (Str × Int)))) (q2 : Str) => ((if (!decide (q2 = q1)) then ((f__law_draw s2.1 (9 : Int)).bind fun r1 => (pdput s2.2 q2 (r1.1 - (4 : Int))).bind fun d1 => .ok (r1.2, d1)) else .ok (s2.1, s2.2)) : Res ((List Int) × (List (Str × Int))))) (s1, _law_values) _law_theory_here.1).bind fun s2 => lt _law_theory_here.2 fun _law_given : (List (Str × Str × Int)) => ((((f__law_draw s2.1 (4 : Int)).bind fun r2 => ((if (decide ((0 : Int) < r2.1)) then ((pml (fun q3 : (Str × Str × Int) => (((((if (decide (q1 ∈ [q3.1, q3.2.1])) then .ok (true, ()) else ((f__law_value s2.2 q3.1).bind fun r3 => (f__law_value s2.2 q3.2.1).bind fun r4 => .ok ((decide ((r3 - r4) ≤ q3.2.2)), ()))) : Res (Bool × Unit))).bind fun r5 => (if r5.1 then .ok (some q3) else .ok none)) : Res (Option (Str × Str × Int)))) _law_given).bind fun r6 => lt r6 fun _law_given : (List (Str × Str × Int)) => .ok (r2.2, _law_given)) else .ok (r2.2, _law_given)) : Res ((List Int) × (List (Str × Str × Int)))))).bind fun s4 => ((f__law_draw s4.1 (6 : Int)).bind fun r7 => lt r7.1 fun _law_side : Int => (((if (decide (_law_side < (2 : Int))) then ((pml (fun q4 : (Str × Str × Int) => (((psel [q4.1, q4.2.1] _law_side).bind fun r8 => (if (!decide (r8 = q1)) then .ok (some q4) else .ok none)) : Res (Option (Str × Str × Int)))) s4.2).bind fun r9 => lt r9 fun _law_given : (List (Str × Str × Int)) => .ok (_law_given)) else .ok (s4.2)) : Res ((List (Str × Str × Int)))).bind fun s5 => (((if (decide (_law_side = (5 : Int))) then lt ((s5.filter fun q5 => (!decide (q1 ∈ [q5.1, q5.2.1]))).map fun q5 => q5) fun _law_given : (List (Str × Str × Int)) => .ok (_law_given) else .ok (s5)) : Res ((List (Str × Str × Int)))).bind fun s6 => lt (_law_theory_here.1, s6) fun _law_asked : ((List Str) × (List (Str × Str × Int))) => ((psortS (dkeys s2.2)).bind fun r10 => (pml (fun q6 : Str => (((pdget s2.2 q6).bind fun r11 => .ok (some (q6, r11))) : Res (Option (Str × Int)))) (sortS (dkeys s2.2))).bind fun r12 => lt r12 fun _law_before : (List (Str × Int)) => ((f__law_first _law_asked q1 s2.2).bind fun r13 => (f__law_lifted _law_asked q1 s2.2 r13).bind fun r14 => (if (!r14) then .ok (.rt (false, r7.2)) else ((psortS (dkeys s2.2)).bind fun r15 => (pml (fun q7 : Str => (((pdget s2.2 q7).bind fun r16 => .ok (some (q7, r16))) : Res (Option (Str × Int)))) (sortS (dkeys s2.2))).bind fun r17 => (if (!decide (r17 = _law_before)) then .ok (.rt (false, r7.2)) else .ok (.nx (r7.2)))))))))))) : Res (Fl ((List Int)) (Bool × (List Int))))) (_law_source_here) _law_theory_here.1).thn (fun s1 => .ok (true, s1)) (fun ρ => .ok ρ)))
def f_law (_law_script : (List Int)) : Res (Bool) := Res.noerr (((f__law_source _law_script (0 : Int)).bind fun r1 => (f__law_theory r1).bind fun r2 => lt r2.1 fun _law_theory_here : ((List Str) × (List (Str × Str × Int))) => ((f__law_source _law_script (1 : Int)).bind fun r3 => lt r3 fun _law_source_here : (List Int) => (((guard (-40000 ≤ (3 : Int) ∧ (3 : Int) ≤ 40000))).bind fun r4 => ((pfor (fun (s1 : ((List Int))) (q1 : Int) => (((f__law_valid_right s1 _law_theory_here.1).bind fun r5 => (((if (!r5.1) then .ok (true, (r5.2)) else ((f__law_holds_right r5.2 _law_theory_here.1).bind fun r6 => .ok ((!r6.1), (r6.2)))) : Res (Bool × ((List Int))))).bind fun r7 => (if r7.1 then .ok (.rt false) else .ok (.nx (r7.2)))) : Res (Fl ((List Int)) (Bool)))) (_law_source_here) (rng 0 ((3 : Int)).toNat)).thn (fun s1 => (if (!decide ((f_Steps_contradiction ()) = (("" : Str), ("" : Str), (-(1 : Int))))) then .ok false else ((f__law_source _law_script (2 : Int)).bind fun r8 => lt r8 fun _law_source_here : (List Int) => ((f__law_rename_right _law_source_here _law_theory_here).bind fun r9 => (((if (!r9.1) then .ok (true, (r9.2)) else ((f__law_pin_right r9.2 _law_theory_here.1).bind fun r10 => .ok ((!r10.1), (r10.2)))) : Res (Bool × ((List Int))))).bind fun r11 => (if r11.1 then .ok false else ((f__law_ground_right r11.2).bind fun r12 => (((if r12.1 then ((f__law_source _law_script (3 : Int)).bind fun r13 => (f__law_lift_right r13 _law_theory_here).bind fun r14 => .ok (r14.1, ())) else .ok (false, ())) : Res (Bool × Unit))).bind fun r15 => .ok r15.1)))))) (fun ρ => .ok ρ))))))
end Sl
namespace Sl
open PySem PySem.Spec PyProof.Rows L2 Mi
abbrev Con := Str × Str × Int
theorem draw_ok {l : List Int} {lim : Int} (hl : Src2 l) (h0 : 0 < lim) (h1 : lim < 1073741824) : Ret (f__law_draw l lim) fun r => (0 ≤ r.1 ∧ r.1 < lim) ∧ Src2 r.2 := by
  obtain ⟨n, c, rfl⟩ := hl
  have e0 : ∀ a b : Int, pidx [a, b] 0 = .ok a := fun _ _ => rfl
  have e1 : ∀ a b : Int, pidx [a, b] 1 = .ok b := fun _ _ => rfl
  have s0 : ∀ a b x : Int, pset [a, b] 0 x = .ok [x, b] := fun _ _ _ => rfl
  have s1 : ∀ a b x : Int, pset [a, b] 1 x = .ok [a, x] := fun _ _ _ => rfl
  have lm : ∀ x : Int, 0 ≤ x % lim ∧ x % lim < lim := fun x => ⟨Int.emod_nonneg _ (by omega), Int.emod_lt_of_pos _ h0⟩
  refine ret_noerr (ret_eq (e0 ..) (ret_ltE fun N _ => ret_if (fun _ => ?_) fun _ => ?_))
  · exact ret_eq (pdiv_ok h0 h1) (ret_eq (s0 ..) (ret_eq (pmod_ok h0) (ret_ok ⟨lm _, _, _, rfl⟩)))
  · refine ret_eq (e1 ..) (ret_eq (s1 ..) (ret_eq (e1 ..) (ret_ltE fun m hm => ?_)))
    have hm1 : 0 ≤ m ∧ m < 2147483647 := by rw [hm]; exact ⟨Int.emod_nonneg _ (by omega), Int.emod_lt_of_pos _ (by omega)⟩
    clear hm
    refine ret_eq (pmul_l (by omega) (by omega)) (ret_eq (e1 ..) (ret_ltE fun m2 hm2 => ?_))
    have hm3 : 0 ≤ m2 ∧ m2 < 2147483629 := by rw [hm2]; exact ⟨Int.emod_nonneg _ (by omega), Int.emod_lt_of_pos _ (by omega)⟩
    clear hm2
    exact ret_eq (pmul_l (by omega) (by omega)) (ret_ltE fun m3 _ => ret_eq (pmod_ok h0) (ret_ok ⟨lm _, _, _, rfl⟩))
theorem source_ok {ns : List Int} {k : Int} (h0 : 0 ≤ k) : Ret (f__law_source ns k) Src2 :=
  ret_noerr (ret_lt (ret_bind (P := fun _ => True) (ret_if (fun h => ret_bind (pidx_get h0 (of_decide_eq_true h)) fun x _ => ret_lt (ret_ok trivial)) fun _ => ret_ok trivial) fun x _ => ret_ok ⟨_, _, rfl⟩))
theorem some_ok {l : List Int} {names : List Str} {most : Int} (hl : Src2 l) (h0 : 0 ≤ most) (h1 : names.length < 1000) : Ret (f__law_some l names most) fun r => Src2 r.2 ∧ r.1.Sublist names ∧ (r.1.length : Int) ≤ most := by
  refine ret_noerr (ret_lt (ret_bind (ret_fold (fun pre (s : List Int × List Str) => Src2 s.1 ∧ s.2.Sublist pre ∧ (s.2.length : Int) ≤ most) ⟨hl, List.Sublist.refl _, by simpa using h0⟩ ?_) fun s hs => ret_ok ⟨hs.1, hs.2.1, hs.2.2⟩))
  rintro pre x post s e ⟨i1, i2, i3⟩
  refine ret_bind (P := fun r : Bool × List Int => Src2 r.2 ∧ (r.1 = true → (s.2.length : Int) < most)) (ret_if (fun h => ret_bind (draw_ok i1 (by omega) (by omega)) fun r hr => ret_ok ⟨hr.2, fun _ => of_decide_eq_true h⟩) fun _ => ret_ok ⟨i1, nofun⟩) fun r hr => ret_if (fun h => ?_) fun h => ?_
  · have hx : s.2.length < 100000 := by have := i2.length_le; rw [e] at h1; simp at h1; omega
    refine ret_eq (psnoc_ok hx) (ret_ok ⟨hr.1, i2.append (List.Sublist.refl [x]), ?_⟩)
    have := hr.2 h
    rw [List.length_append]; simp; omega
  · exact ret_ok ⟨hr.1, i2.trans (List.sublist_append_left ..), i3⟩
theorem bound_ok {l : List Int} (hl : Src2 l) : Ret (f__law_bound l) fun r => Src2 r.2 :=
  ret_noerr (ret_bind (draw_ok hl (by omega) (by omega)) fun r hr => ret_if (fun _ => ret_bind (draw_ok hr.2 (by omega) (by omega)) fun q hq => ret_ok hq.2) fun _ => ret_bind (draw_ok hr.2 (by omega) (by omega)) fun q hq => ret_ok hq.2)
def GC (ns : List Str) (c : Con) : Prop := c.1 ∈ ("" : Str) :: ns ∧ c.2.1 ∈ ("" : Str) :: ns ∧ (c.1 = c.2.1 → c.1 = ("" : Str))
theorem constraint_ok {l : List Int} {names : List Str} (hl : Src2 l) (hn : names.length < 1000) : Ret (f__law_constraint l names) fun r => Src2 r.2 ∧ GC names r.1 := by
  refine ret_noerr (ret_eq (pcat_ok (by simp; omega)) (ret_ltE fun ends he => ?_))
  have he : ends = ("" : Str) :: names := he
  have hlen : (0:Int) < ends.length ∧ (ends.length:Int) < 1073741824 := by rw [he]; simp; omega
  refine ret_bind (draw_ok hl hlen.1 hlen.2) fun r hr => ret_bind (pidx_get hr.1.1 hr.1.2) fun x hx => ret_lt (ret_bind (draw_ok hr.2 hlen.1 hlen.2) fun q hq => ret_bind (pidx_get hq.1.1 hq.1.2) fun y hy => ret_lt (ret_bind (P := fun y' => y' ∈ ends ∧ (x = y' → x = ("" : Str))) (ret_if (fun h => ret_lt (ret_ok ⟨by rw [he]; exact List.mem_cons_self .., id⟩)) fun h => ret_ok ⟨hy.1, fun e => ?_⟩) fun y' hy' => ret_bind (bound_ok hq.2) fun b hb => ret_ok ⟨hb, he ▸ hx.1, he ▸ hy'.1, hy'.2⟩))
  by_cases z : x = ("" : Str)
  · exact z
  · exact absurd (by simp [← e, z]) h
def pool8 : List Str := ["a", "a1", "b", "b.c", "c", "d", "x9", "zz"]
def GT (t : List Str × List Con) : Prop := t.1.Sublist pool8 ∧ t.1.length ≤ 4 ∧ t.2.length ≤ 8 ∧ ∀ c ∈ t.2, GC t.1 c
theorem theory_ok {l : List Int} (hl : Src2 l) : Ret (f__law_theory l) fun r => Src2 r.2 ∧ GT r.1 := by
  refine ret_noerr (ret_lt (ret_bind (draw_ok hl (by omega) (by omega)) fun r1 h1 => ret_bind (draw_ok h1.2 (by omega) (by omega)) fun r2 h2 => ret_bind (some_ok h2.2 h2.1.1 ?_) fun r3 h3 => ret_lt (ret_lt (ret_bind (draw_ok h3.1 (by omega) (by omega)) fun r4 h4 => ret_eq (guard_ok (by omega)) (ret_bind (ret_fold (fun pre (s : List Int × List Con) => Src2 s.1 ∧ s.2.length = pre.length ∧ ∀ c ∈ s.2, GC r3.1 c) ⟨h4.2, rfl, by simp⟩ ?_) fun s hs => ret_ok ⟨hs.1, h3.2.1.trans pcut_sub, by show r3.1.length ≤ 4; omega, ?_, hs.2.2⟩)))))
  · have := (pcut_sub (xs := pool8) (a := some r1.1) (b := none)).length_le
    exact Nat.lt_of_le_of_lt this (by decide)
  · rintro pre x post s e ⟨i1, i2, i3⟩
    have hl : r3.1.length < 1000 := by omega
    have hp : pre.length < 9 := by
      have := congrArg List.length e
      rw [rng_len] at this
      simp at this
      omega
    refine ret_bind (constraint_ok i1 hl) fun r hr => ret_eq (psnoc_ok (by omega)) (ret_ok ⟨hr.1, by simp [i2], fun c hc => ?_⟩)
    rcases List.mem_append.mp hc with hc | hc
    · exact i3 c hc
    · rw [List.mem_singleton.mp hc]; exact hr.2
  · show s.2.length ≤ 8
    rw [hs.2.1, rng_len]; omega
/-! values -/
def Has (d : List (Str × Int)) (n : Str) : Prop := n = ("" : Str) ∨ n ∈ dkeys d
def vOf (d : List (Str × Int)) (n : Str) : Int := if n = ("" : Str) then 0 else (dlook d n).getD 0
theorem val1 {d : List (Str × Int)} {n : Str} (h : Has d n) : f_value_of d n = .ok (vOf d n) := by
  unfold f_value_of vOf
  by_cases e : n = ("" : Str)
  · simp [e, Res.noerr]
  · obtain ⟨x, hx⟩ := dlook_mem (h.resolve_left e)
    rw [pdget_ok hx]
    simp [e, hx, Res.noerr]
theorem val2 {d : List (Str × Int)} {n : Str} (h : Has d n) : f__law_value d n = .ok (vOf d n) := by
  unfold f__law_value vOf
  by_cases e : n = ("" : Str)
  · simp [e, Res.noerr]
  · obtain ⟨x, hx⟩ := dlook_mem (h.resolve_left e)
    rw [pdget_ok hx]
    simp [e, hx, Res.noerr]
theorem holds_ok {d : List (Str × Int)} {x y : Str} {b : Int} (hx : Has d x) (hy : Has d y) : f_Steps_holds () (x, y, b) d = .ok (decide (vOf d x - vOf d y ≤ b)) := by
  show Res.noerr ((f_value_of d x).bind fun r1 => (f_value_of d y).bind fun r2 => .ok (decide (r1 - r2 ≤ b))) = _
  rw [val1 hx, bind_ok, val1 hy, bind_ok]; rfl
theorem tab_ok {α : Type} {d : List (Str × α)} : ∃ T, pml (fun q => (pdget d q).bind fun r => .ok (some (q, r))) (sortS (dkeys d)) = .ok T := by
  obtain ⟨T, h, _⟩ := ret_pml (f := fun q => (pdget d q).bind fun r => .ok (some (q, r))) (xs := sortS (dkeys d)) fun x hx => by
    obtain ⟨v, hv⟩ := dlook_mem (mem_sortS.mp hx)
    exact ⟨_, by rw [pdget_ok hv, bind_ok]⟩
  exact ⟨T, h⟩
def GR (r : Bool × List Int) : Prop := r.1 = true ∧ Src2 r.2
theorem kind_ok {names : List Str} {c : Con} : f_Kind_is_valid () names c = .ok ((decide (c.1 = ("" : Str)) || decide (c.1 ∈ names)) && (decide (c.2.1 = ("" : Str)) || decide (c.2.1 ∈ names))) := by
  unfold f_Kind_is_valid f_Steps_names_in
  by_cases h1 : c.1 = ("" : Str) <;> by_cases h2 : c.2.1 = ("" : Str) <;> by_cases h3 : c.1 ∈ names <;> by_cases h4 : c.2.1 ∈ names <;> simp [h1, h2, h3, h4, pfor, pnext, Res.noerr]
theorem valid_right {l : List Int} {names : List Str} (hl : Src2 l) (hn : names.length < 1000) : Ret (f__law_valid_right l names) GR := by
  refine ret_noerr (ret_eq (pcat_ok (by simp; omega)) (ret_eq (pcat_ok (by simp; omega)) (ret_ltE fun ends he => ?_)))
  have hlen : (0:Int) < ends.length ∧ (ends.length:Int) < 1073741824 := by rw [he]; simp; omega
  clear he
  refine ret_bind (draw_ok hl hlen.1 hlen.2) fun r hr => ret_bind (pidx_get hr.1.1 hr.1.2) fun x hx => ret_lt (ret_bind (draw_ok hr.2 hlen.1 hlen.2) fun q hq => ret_bind (pidx_get hq.1.1 hq.1.2) fun y hy => ret_lt (ret_bind (P := fun s => Src2 s.1) (ret_bind (draw_ok hq.2 (by omega) (by omega)) fun r7 h7 => ret_if (fun _ => ret_lt (ret_ok h7.2)) fun _ => ret_ok h7.2) fun s hs => ret_ltE fun ex hex => ret_bind (bound_ok hs) fun r8 h8 => ret_lt ?_))
  have hv : f_Steps_is_valid () names (x, s.2, r8.1) = .ok ex := by
    unfold f_Steps_is_valid
    rw [kind_ok, bind_ok, hex]
    show Res.ok _ = _
    congr 1
    simp [Bool.and_assoc]
  refine ret_eq hv (ret_lt (ret_if (fun h => ?_) fun _ => ret_if (fun _ => ret_ok ⟨rfl, h8⟩) fun _ => ret_ok ⟨decide_eq_true rfl, h8⟩))
  simp at h
theorem holds_right {l : List Int} {names : List Str} (hl : Src2 l) (hn : names.length < 60) : Ret (f__law_holds_right l names) GR := by
  refine ret_noerr (ret_lt (ret_bind (ret_fold (fun pre (s : List Int × List (Str × Int)) => Src2 s.1 ∧ s.2.length ≤ pre.length ∧ ∀ n ∈ pre, n ∈ dkeys s.2) ⟨hl, Nat.le_refl _, by simp⟩ ?_) fun s hs => ?_))
  · rintro pre x post s e ⟨i1, i2, i3⟩
    have : pre.length < 60 := by rw [e] at hn; simp at hn; omega
    refine ret_bind (draw_ok i1 (by omega) (by omega)) fun r hr => ret_eq (pdput_ok (by omega)) (ret_ok ⟨hr.2, ?_, fun n h => ?_⟩)
    · have := dput_len (d := s.2) (k := x) (x := r.1 - 40)
      rw [List.length_append]; simp; omega
    · refine mem_dkeys_put.mpr ?_
      rcases List.mem_append.mp h with h | h
      · exact .inr (i3 n h)
      · exact .inl (List.mem_singleton.mp h)
  · obtain ⟨i1, i2, i3⟩ := hs
    obtain ⟨T, hT⟩ := tab_ok (d := s.2)
    have hk : (dkeys s.2).length < 64 := by simp [dkeys]; omega
    have hh : ∀ n ∈ ("" : Str) :: names, Has s.2 n := fun n h => by
      rcases List.mem_cons.mp h with h | h
      · exact .inl h
      · exact .inr (i3 n h)
    refine ret_eq (psortS_ok hk) (ret_eq hT (ret_lt (ret_bind (constraint_ok i1 (by omega)) fun r5 h5 => ?_)))
    refine ret_lt (ret_bind (constraint_ok h5.1 (by omega)) fun r6 h6 => ?_)
    refine ret_lt (ret_bind (P := fun q : Str × Str => Has s.2 q.1 ∧ Has s.2 q.2) (ret_if (fun _ => ret_lt (ret_lt (ret_ok ⟨.inl rfl, .inl rfl⟩))) fun _ => ret_ok ⟨hh _ h5.2.1, hh _ h6.2.2.1⟩) fun q hq => ?_)
    refine ret_eq (val2 hq.1) (ret_eq (val2 hq.2) (ret_ltE fun D hD => ret_eq (guard_ok (by omega)) ?_))
    refine ret_thn (ret_for (fun _ _ => True) (fun _ => True) (fun _ => False) trivial (fun _ _ => trivial) ?_) (fun _ _ => ?_) fun _ h => h.elim
    · intro pre i post _ _ _
      refine ret_eq (holds_ok hq.1 hq.2) (ret_lt (ret_if (fun h => ?_) fun _ => ret_ok trivial))
      have hd : (decide (vOf s.2 q.1 - vOf s.2 q.2 ≤ D + i - 1)) = decide (0 < i) := decide_eq_decide.mpr (by omega)
      rw [hd] at h
      simp at h
    · refine ret_eq (holds_ok hq.1 hq.2) (ret_lt (ret_if (fun h => ?_) fun _ => ret_eq (psortS_ok hk) (ret_eq hT (ret_ok ⟨decide_eq_true rfl, h6.1⟩))))
      have hd : (decide (vOf s.2 q.1 - vOf s.2 q.2 ≤ 0 - D)) = decide (2 * D ≤ 0) := decide_eq_decide.mpr (by omega)
      rw [hd] at h
      simp at h
/-! lists -/
theorem pool8_asc : Asc pool8 := by
  unfold Asc pool8
  decide +kernel
theorem pool8_ne : ∀ n ∈ pool8, n ≠ ("" : Str) := by decide +kernel
def wide11 : List Str := ["a", "b", "b.c", "c1", "d", "k", "n.m", "q", "x9", "y", "zz"]
def ordF (a b : Int) (q : Int) : Str := wide11.getD ((a + q * b) % 11).toNat ("" : Str)
theorem ord_nodup : ∀ a < 11, ∀ b < 10, ((rng 0 11).map (ordF ((a : Nat) : Int) (1 + ((b : Nat) : Int)))).Nodup := by
  unfold ordF wide11 rng
  decide +kernel
theorem ord_ok {a b : Int} (h0 : 0 ≤ a) (h1 : a < 11) (h2 : 1 ≤ b) (h3 : b < 11) : pml (fun q1 : Int => (((pmul q1 b).bind fun r5 => (pidx wide11 ((a + r5) % (11 : Int))).bind fun r6 => .ok (some r6)) : Res (Option Str))) (rng 0 11) = .ok ((rng 0 11).map (ordF a b)) := by
  refine pml_map fun q _ => ?_
  rw [pmul_r (by omega) (by omega), bind_ok]
  have h := pidx_nat (xs := wide11) (n := ((a + q * b) % 11).toNat) (x := ordF a b q) (by
    have : ((a + q * b) % 11).toNat < wide11.length := by show _ < 11; omega
    unfold ordF
    rw [List.getD_eq_getElem?_getD, List.getElem?_eq_getElem this]; rfl)
  rw [Int.toNat_of_nonneg (Int.emod_nonneg _ (by omega))] at h
  rw [h, bind_ok]
theorem merge1 {xs : List Str} (h : xs.Nodup) (hl : xs.length < 60) : f_merge_names [xs] = .ok (sortS xs) := by
  let P : List (Str × Bool) → Prop := fun s => (∀ x, x ∈ dkeys s ↔ x ∈ xs) ∧ (dkeys s).Nodup ∧ s.length ≤ xs.length
  refine ret_to (ret_noerr (ret_lt (ret_bind (P := P) (ret_bind (P := P) (ret_bind (P := P) (ret_fold (fun pre (s : List (Str × Bool)) => (∀ x, x ∈ dkeys s ↔ x ∈ pre) ∧ (dkeys s).Nodup ∧ s.length ≤ pre.length) ⟨by simp [dkeys], by simp [dkeys], Nat.le_refl _⟩ ?_) fun s h => ret_ok h) fun s h => ret_ok h) fun s hs => ret_eq (psortS_ok (by have := hs.2.2; simp [dkeys]; omega)) (ret_ok ?_))))
  · rintro pre x post s e ⟨i1, i2, i3⟩
    have : pre.length < 60 := by rw [e] at hl; simp at hl; omega
    refine ret_eq (pdput_ok (by omega)) (ret_ok ⟨fun y => ?_, dkeys_put_nodup i2, ?_⟩)
    · rw [mem_dkeys_put, i1, List.mem_append, List.mem_singleton]; exact or_comm
    · have := dput_len (d := s) (k := x) (x := true)
      rw [List.length_append]; simp; omega
  · exact Asc.ext (asc_sortS hs.2.1) (asc_sortS h) fun x => by rw [mem_sortS, mem_sortS]; exact hs.1 x
def tau (d : List (Str × Str)) (n : Str) : Str := dgetD d n n
theorem tau_put {d : List (Str × Str)} {m f n : Str} : tau (dput d m f) n = if n = m then f else tau d n := by
  unfold tau dgetD
  rw [dlook_put]
  by_cases e : n = m
  · rw [if_pos e, if_pos e]; rfl
  · rw [if_neg e, if_neg e]
theorem map_nodup {α β : Type} {f : α → β} {l : List α} (h : l.Nodup) (hf : ∀ a ∈ l, ∀ b ∈ l, a ≠ b → f a ≠ f b) : (l.map f).Nodup := by
  unfold List.Nodup at *
  exact List.pairwise_map.mpr (List.Pairwise.imp_of_mem (fun {a b} ha hb hab => hf a ha b hb hab) h)
theorem rename_right {l : List Int} {t : List Str × List Con} (hl : Src2 l) (ht : GT t) : Ret (f__law_rename_right l t) GR := by
  have ndt : t.1.Nodup := Asc.nodup (List.Pairwise.sublist ht.1 pool8_asc)
  refine ret_noerr (ret_bind (some_ok hl (by omega) (by have := ht.2.1; omega)) fun r1 h1 => ret_lt (ret_lt (ret_bind (draw_ok h1.1 (by omega) (by omega)) fun r2 h2 => ret_ltE fun a ha => ret_bind (draw_ok h2.2 (by omega) (by omega)) fun r3 h3 => ret_ltE fun b hb => ret_eq (guard_ok (by omega)) ?_)))
  refine ret_eq (ord_ok (a := a) (b := b) (by omega) (by omega) (by omega) (by omega)) (ret_ltE fun order ho => ?_)
  have ndo : order.Nodup := by
    have := ord_nodup a.toNat (by omega) (b - 1).toNat (by omega)
    rw [Int.toNat_of_nonneg (by omega), Int.toNat_of_nonneg (by omega), show (1 : Int) + (b - 1) = b by omega] at this
    rw [ho]; exact this
  have hol : order.length = 11 := by rw [ho, List.length_map, rng_len]
  clear ho
  refine ret_ltE fun free hfree => ret_lt (ret_ltE fun moved hmoved => ?_)
  rw [List.map_id'] at hfree hmoved
  have ndf : free.Nodup := by rw [hfree]; exact List.Sublist.nodup (List.filter_sublist ..) ndo
  have ndm : moved.Nodup := by rw [hmoved]; exact List.Sublist.nodup (List.filter_sublist ..) ndt
  have hml : moved.length ≤ 4 := by rw [hmoved]; exact Nat.le_trans (List.length_filter_le ..) ht.2.1
  have hfk : ∀ f ∈ free, f ∉ r1.1 := fun f hf => by rw [hfree] at hf; simpa using (List.mem_filter.mp hf).2
  have hmk : ∀ f ∈ moved, f ∉ r1.1 := fun f hf => by rw [hmoved] at hf; simpa using (List.mem_filter.mp hf).2
  have hmt : ∀ n ∈ t.1, n ∉ r1.1 → n ∈ moved := fun n hn h => by rw [hmoved]; exact List.mem_filter.mpr ⟨hn, by simpa using h⟩
  have hfl : 4 < free.length := by
    have e1 := filt_add (l := order) fun q2 => !decide (q2 ∈ r1.1)
    have e2 := nodup_le (l := order.filter fun q2 => !(!decide (q2 ∈ r1.1))) (m := r1.1) (List.Sublist.nodup (List.filter_sublist ..) ndo) fun x hx => by simpa using (List.mem_filter.mp hx).2
    have := h1.2.2
    rw [← hfree] at e1
    omega
  refine ret_eq (guard_ok (by omega)) (ret_bind (ret_fold (fun pre (s : List (Str × Str)) => s.length ≤ pre.length ∧ (∀ i, i < pre.length → ∀ m f, moved[i]? = some m → free[i]? = some f → tau s m = f) ∧ ∀ n, n ∉ moved.take pre.length → dlook s n = none) ⟨Nat.le_refl _, by simp, fun _ _ => rfl⟩ ?_) fun s hs => ?_)
  · rintro pre x post s e ⟨i1, i2, i3⟩
    obtain ⟨rfl, hj⟩ := rng_at e
    rw [show ((moved.length : Int)).toNat = moved.length by omega] at hj
    have hjf : pre.length < free.length := by omega
    obtain ⟨m, hm⟩ : ∃ m, moved[pre.length]? = some m := ⟨_, List.getElem?_eq_getElem hj⟩
    obtain ⟨f, hf⟩ : ∃ m, free[pre.length]? = some m := ⟨_, List.getElem?_eq_getElem hjf⟩
    have hmt : m ∉ moved.take pre.length := fun z => by
      obtain ⟨k, hk⟩ := List.mem_iff_getElem?.mp z
      have hk2 : k < pre.length := by
        have := (List.getElem?_eq_some_iff.mp hk).1
        simp at this; omega
      rw [List.getElem?_take_of_lt hk2] at hk
      have := (List.getElem?_inj (by omega) ndm).mp (hk.trans hm.symm)
      omega
    have key : ∀ s' : List (Str × Str), s'.length ≤ s.length + 1 → tau s' m = f → (∀ n, n ≠ m → dlook s' n = dlook s n) → s'.length ≤ (pre ++ [(pre.length : Int)]).length ∧ (∀ i, i < (pre ++ [(pre.length : Int)]).length → ∀ m f, moved[i]? = some m → free[i]? = some f → tau s' m = f) ∧ ∀ n, n ∉ moved.take (pre ++ [(pre.length : Int)]).length → dlook s' n = none := by
      intro s' c1 c2 c3
      rw [List.length_append]
      refine ⟨by simp; omega, fun i hi m' f' hm' hf' => ?_, fun n hn => ?_⟩
      · by_cases e : i = pre.length
        · rw [e] at hm' hf'
          rw [hm] at hm'; rw [hf] at hf'
          cases hm'; cases hf'
          exact c2
        · have hne : m' ≠ m := fun z => by
            rw [z] at hm'
            have := (List.getElem?_inj (by exact (List.getElem?_eq_some_iff.mp hm').1) ndm).mp (hm'.trans hm.symm)
            exact e this
          unfold tau dgetD
          rw [c3 _ hne]
          exact i2 i (by simp at hi; omega) m' f' hm' hf'
      · have : (moved.take (pre.length + 1)) = moved.take pre.length ++ [m] := by rw [List.take_add_one, hm]; rfl
        rw [List.length_singleton, this, List.mem_append, List.mem_singleton] at hn
        rw [c3 _ fun z => hn (.inr z)]
        exact i3 n fun z => hn (.inl z)
    refine ret_eq (pidx_nat hf) (ret_eq (pidx_nat hm) (ret_if (fun h => ?_) fun h => ?_))
    · refine ret_eq (pidx_nat hf) (ret_eq (pidx_nat hm) (ret_eq (pdput_ok (by omega)) (ret_ok (key _ dput_len (by rw [tau_put, if_pos rfl]) fun n hn => by rw [dlook_put, if_neg hn]))))
    · refine ret_ok (key s (Nat.le_succ _) ?_ fun _ _ => rfl)
      unfold tau dgetD
      rw [i3 m hmt]
      simpa using (by simpa using h : f = m).symm
  · obtain ⟨i1, i2, i3⟩ := hs
    rw [rng_len, show ((moved.length : Int)).toNat = moved.length by omega] at i1 i2 i3
    rw [List.take_length] at i3
    obtain ⟨T, hT⟩ := tab_ok (d := s)
    have hk : (dkeys s).length < 64 := by simp [dkeys]; omega
    have tk : ∀ n ∈ r1.1, tau s n = n := fun n hn => by
      unfold tau dgetD
      rw [i3 n fun z => hmk n z hn]; rfl
    have tm : ∀ n ∈ moved, ∃ i f, moved[i]? = some n ∧ free[i]? = some f ∧ tau s n = f := fun n hn => by
      obtain ⟨i, hi⟩ := List.mem_iff_getElem?.mp hn
      have hil := (List.getElem?_eq_some_iff.mp hi).1
      have hif : i < free.length := by omega
      exact ⟨i, _, hi, List.getElem?_eq_getElem hif, i2 i hil _ _ hi (List.getElem?_eq_getElem hif)⟩
    have nd : (t.1.map (tau s)).Nodup := map_nodup ndt fun x hx y hy hne => by
      by_cases kx : x ∈ r1.1
      · rw [tk x kx]
        by_cases ky : y ∈ r1.1
        · rw [tk y ky]; exact hne
        · obtain ⟨i, f, _, hf, e⟩ := tm y (hmt y hy ky)
          rw [e]
          exact fun z => hfk f (List.mem_of_getElem? hf) (z ▸ kx)
      · obtain ⟨i, f, hi, hf, e⟩ := tm x (hmt x hx kx)
        rw [e]
        by_cases ky : y ∈ r1.1
        · rw [tk y ky]
          exact fun z => hfk f (List.mem_of_getElem? hf) (z ▸ ky)
        · obtain ⟨i', f', hi', hf', e'⟩ := tm y (hmt y hy ky)
          rw [e']
          intro z
          rw [← z] at hf'
          have := (List.getElem?_inj (List.getElem?_eq_some_iff.mp hf).1 ndf).mp (hf.trans hf'.symm)
          rw [this, hi'] at hi
          exact hne (Option.some.inj hi).symm
    have hr : f_Steps_rename () t s = .ok (sortS (t.1.map (tau s)), t.2.map fun q7 => (dgetD s q7.1 q7.1, dgetD s q7.2.1 q7.2.1, q7.2.2)) := by
      show Res.noerr ((f_merge_names [t.1.map (tau s)]).bind _) = _
      rw [merge1 nd (by rw [List.length_map]; have := ht.2.1; omega), bind_ok]
      rfl
    refine ret_eq (psortS_ok hk) (ret_eq hT (ret_lt (ret_eq (psortS_ok (by rw [List.length_map]; have := ht.2.1; omega)) (ret_lt (ret_lt (ret_eq hr (ret_if (fun h => ?_) fun _ => ret_eq (psortS_ok hk) (ret_eq hT (ret_ok ⟨decide_eq_true rfl, h3.2⟩)))))))))
    exact (not_dec h rfl).elim
/-! pins and the ground -/
theorem flatMap_congr' {α β : Type} {f g : α → List β} : ∀ {l : List α}, (∀ x ∈ l, f x = g x) → l.flatMap f = l.flatMap g
  | [], _ => rfl
  | x :: l, h => by rw [List.flatMap_cons, List.flatMap_cons, h x (List.mem_cons_self ..), flatMap_congr' fun y hy => h y (List.mem_cons_of_mem _ hy)]
def pinC (ρ : Str → Int) (n : Str) : List Con := [(n, ("" : Str), ρ n), (("" : Str), n, -ρ n)]
theorem pin_len (ρ : Str → Int) : ∀ ns : List Str, (ns.flatMap (pinC ρ)).length = 2 * ns.length
  | [] => rfl
  | n :: ns => by rw [List.flatMap_cons, List.length_append, pin_len ρ ns]; simp [pinC]; omega
theorem pin_ok {names : List Str} {d : List (Str × Int)} (h : ∀ n ∈ names, n ∈ dkeys d) (hl : names.length < 60) : f_Steps_pin () names d = .ok (names, names.flatMap (pinC fun n => (dlook d n).getD 0)) := by
  refine ret_to (ret_noerr (ret_lt (ret_bind (ret_fold (fun pre (s : List Con) => s = pre.flatMap (pinC fun n => (dlook d n).getD 0)) rfl ?_) fun s hs => ret_ok (by rw [hs]))))
  intro pre x post s e hs
  obtain ⟨v, hv⟩ := dlook_mem (h x (by rw [e]; simp))
  have hp : pre.length < 60 := by rw [e] at hl; simp at hl; omega
  have hsl : s.length = 2 * pre.length := by rw [hs, pin_len]
  refine ret_eq (pdget_ok hv) (ret_eq (psnoc_ok (by omega)) (ret_eq (pdget_ok hv) (ret_eq (psnoc_ok (by rw [List.length_append]; simp; omega)) (ret_ok ?_))))
  rw [hs, List.flatMap_append, List.flatMap_singleton]
  simp [pinC, hv]
theorem pin_right {l : List Int} {names : List Str} (hl : Src2 l) (hn : names.length < 50) (ha : Asc names) : Ret (f__law_pin_right l names) GR := by
  refine ret_noerr (ret_lt (ret_lt (ret_bind (ret_fold (fun pre (s : List Int × List (Str × Int) × List Con) => Src2 s.1 ∧ dkeys s.2.1 = pre ∧ s.2.2 = s.2.1.flatMap fun kv => [(kv.1, ("" : Str), kv.2), (("" : Str), kv.1, -kv.2)]) ⟨hl, rfl, rfl⟩ ?_) fun s hs => ?_)))
  · rintro pre x post s e ⟨i1, i2, i3⟩
    have hp : pre.length < 50 := by rw [e] at hn; simp at hn; omega
    have hd : s.2.1.length = pre.length := by rw [← i2]; simp [dkeys]
    have hsl : ∀ d : List (Str × Int), (d.flatMap fun kv => [(kv.1, ("" : Str), kv.2), (("" : Str), kv.1, -kv.2)]).length = 2 * d.length := fun d => by
      induction d with
      | nil => rfl
      | cons p d ih => rw [List.flatMap_cons, List.length_append, ih]; simp; omega
    have h2 := hsl s.2.1
    rw [← i3] at h2
    have hx : x ∉ dkeys s.2.1 := fun z => by
      rw [i2] at z
      have := ha.nodup
      rw [e] at this
      exact (List.nodup_append.mp this).2.2 x z x (List.mem_cons_self ..) rfl
    refine ret_bind (draw_ok i1 (by omega) (by omega)) fun r hr => ret_lt (ret_eq (pdput_ok (by omega)) (ret_eq (psnoc_ok (by omega)) (ret_eq (psnoc_ok (by rw [List.length_append]; simp; omega)) (ret_ok ⟨hr.2, ?_, ?_⟩))))
    · show dkeys (dput s.2.1 x _) = _
      rw [dput_new hx]; unfold dkeys at *; rw [List.map_append, i2]; rfl
    · show _ = (dput s.2.1 x _).flatMap _
      rw [dput_new hx, List.flatMap_append, ← i3]
      simp
  · obtain ⟨i1, i2, i3⟩ := hs
    have nd : (dkeys s.2.1).Nodup := by rw [i2]; exact ha.nodup
    have he : names.flatMap (pinC fun n => (dlook s.2.1 n).getD 0) = s.2.2 := by
      rw [i3]
      have : names.flatMap (pinC fun n => (dlook s.2.1 n).getD 0) = (s.2.1.map (·.1)).flatMap (pinC fun n => (dlook s.2.1 n).getD 0) := by rw [← i2]; rfl
      rw [this, List.flatMap_map]
      refine flatMap_congr' fun kv hkv => ?_
      unfold pinC
      simp [dlook_of_mem nd hkv]
    refine ret_eq (pin_ok (fun n hn => by rw [i2]; exact hn) (by omega)) (ret_lt ?_)
    rw [he]
    refine ret_bind (P := fun q : Bool × Unit => q.1 = false) (ret_if (fun h => ?_) fun _ => ret_eq (psortS_ok (by rw [i2]; omega)) (ret_ok ?_)) fun q hq => ret_if (fun h => ?_) fun _ => ?_
    · exact absurd rfl (not_dec h)
    · rw [i2, sortS_asc ha]; simp
    · rw [hq] at h; exact nomatch h
    · refine ret_thn (ret_for (fun _ _ => True) (fun _ => True) (fun _ => False) trivial (fun _ _ => trivial) fun pre x post s' _ _ => ?_) (fun _ _ => ret_ok ⟨rfl, i1⟩) fun _ h => h.elim
      exact ret_if (fun h => nomatch h) fun _ => ret_ok trivial
theorem same_nil : f__law_same [] [] = .ok true := by
  have h : sortS [] = [] := by simp [sortS]
  unfold f__law_same
  simp [Res.noerr, psortS, dkeys, h, pfor]
theorem ground_ok {bs : List Int} : f_Steps_ground () ([], bs.map fun q => (("" : Str), ("" : Str), q)) = .ok (if (bs.all fun b => decide (0 ≤ b)) then some [] else none) := by
  have h : pml (fun q1 : Con => (((f_Steps_holds () q1 ([] : (List (Str × Int)))).bind fun r1 => .ok (some r1)) : Res (Option Bool))) (bs.map fun q => (("" : Str), ("" : Str), q)) = .ok ((bs.map fun q => (("" : Str), ("" : Str), q)).map fun c : Con => decide (0 ≤ c.2.2)) := by
    refine pml_map fun c hc => ?_
    obtain ⟨b, _, rfl⟩ := List.mem_map.mp hc
    rw [holds_ok (.inl rfl) (.inl rfl), bind_ok]
    rfl
  show Res.noerr ((pml _ _).bind _) = _
  rw [h, bind_ok, List.map_map, List.all_map]
  show Res.noerr (if (bs.all fun b => decide (0 ≤ b)) = true then _ else _) = _
  cases bs.all fun b => decide (0 ≤ b) <;> rfl
theorem ground_right {l : List Int} (hl : Src2 l) : Ret (f__law_ground_right l) GR := by
  refine ret_noerr (ret_bind (draw_ok hl (by omega) (by omega)) fun r1 h1 => ret_eq (guard_ok (by omega)) (ret_bind (ret_plc Src2 (fun _ => True) h1.2 fun s x hs => ret_bind (draw_ok hs (by omega) (by omega)) fun r3 h3 => ret_ok ⟨h3.2, fun _ _ => trivial⟩) fun r4 h4 => ret_lt (ret_bind (P := fun s => Src2 s.1) (ret_bind (draw_ok h4.1 (by omega) (by omega)) fun r5 h5 => ret_if (fun _ => ret_lt (ret_ok h5.2)) fun _ => ret_ok h5.2) fun s hs => ret_eq ground_ok (ret_lt ?_))))
  have key : (s.2.all fun b => decide (0 ≤ b)) = !decide (0 < (((s.2.filter fun q4 => (decide (q4 < (0 : Int)))).map fun q4 => q4).length : Int)) := by
    generalize s.2 = bs
    induction bs with
    | nil => rfl
    | cons b bs ih =>
      rw [List.all_cons, List.filter_cons, ih]
      by_cases e : b < 0
      · have : ¬ 0 ≤ b := by omega
        simp [e, this]
      · have : 0 ≤ b := by omega
        simp [e, this]
  rw [key]
  refine ret_if (fun h => ?_) fun h => ?_
  · rw [if_neg (by rw [h]; decide)]
    exact ret_ok ⟨rfl, hs⟩
  · rw [if_pos (by simpa using h)]
    exact ret_eq (x := []) rfl (ret_eq same_nil (ret_ok ⟨rfl, hs⟩))
/-! lifts -/
def Fin (d : List (Str × Int)) (n : Str) (c : Con) : Prop := (c.1 = n → c.2.1 ≠ n ∧ Has d c.2.1) ∧ (c.2.1 = n → Has d c.1) ∧ (c.1 ≠ n → c.2.1 ≠ n → Has d c.1 ∧ Has d c.2.1)
def ends (d : List (Str × Int)) (n : Str) : List Con → List Int × List Int → Option (List Int × List Int)
  | [], s => some s
  | c :: cs, s => if c.1 = n then ends d n cs (s.1, s.2 ++ [vOf d c.2.1 + c.2.2]) else if c.2.1 = n then ends d n cs (s.1 ++ [vOf d c.1 - c.2.2], s.2) else if vOf d c.1 - vOf d c.2.1 ≤ c.2.2 then ends d n cs s else none
theorem ends_first {d : List (Str × Int)} {n : Str} : ∀ {cs : List Con} {s : List Int × List Int}, (∀ c ∈ cs, Fin d n c) → s.1.length + s.2.length + cs.length < 1000 → pfor (fun (s1 : ((List Int) × (List Int))) (q1 : (Str × Str × Int)) => ((if (decide (q1.1 = n)) then ((f__law_value d q1.2.1).bind fun r1 => (psnoc s1.2 (r1 + q1.2.2)).bind fun z1 => .ok (.nx (s1.1, z1))) else (if (decide (q1.2.1 = n)) then ((f__law_value d q1.1).bind fun r2 => (psnoc s1.1 (r2 - q1.2.2)).bind fun z2 => .ok (.nx (z2, s1.2))) else ((f__law_value d q1.1).bind fun r3 => (f__law_value d q1.2.1).bind fun r4 => (if (decide (q1.2.2 < (r3 - r4))) then .ok (.rt (none : (Option Int))) else .ok (.nx (s1.1, s1.2)))))) : Res (Fl ((List Int) × (List Int)) ((Option Int))))) s cs = .ok (match ends d n cs s with | none => .rt none | some s => .nx s)
  | [], s, _, _ => rfl
  | c :: cs, s, h, hl => by
    have hc := h c (List.mem_cons_self ..)
    have h' := fun c hc => h c (List.mem_cons_of_mem _ hc)
    simp only [List.length_cons] at hl
    rw [pfor, ends]
    by_cases e1 : c.1 = n
    · rw [if_pos (decide_eq_true e1), if_pos e1, val2 (hc.1 e1).2, bind_ok, psnoc_ok (by omega), bind_ok, bind_ok]
      exact ends_first h' (by simp; omega)
    · rw [if_neg (by simpa using e1), if_neg e1]
      by_cases e2 : c.2.1 = n
      · rw [if_pos (decide_eq_true e2), if_pos e2, val2 (hc.2.1 e2), bind_ok, psnoc_ok (by omega), bind_ok, bind_ok]
        exact ends_first h' (by simp; omega)
      · rw [if_neg (by simpa using e2), if_neg e2, val2 (hc.2.2 e1 e2).1, bind_ok, val2 (hc.2.2 e1 e2).2, bind_ok]
        by_cases e3 : vOf d c.1 - vOf d c.2.1 ≤ c.2.2
        · rw [if_neg (by simpa using e3), if_pos e3, bind_ok]
          exact ends_first (s := s) h' (by omega)
        · rw [if_pos (by simpa using e3), if_neg e3, bind_ok]; rfl
theorem ends_lift {d : List (Str × Int)} {n : Str} : ∀ {cs : List Con} {s : List Int × List Int}, (∀ c ∈ cs, Fin d n c) → s.1.length + s.2.length + cs.length < 1000 → pfold (fun (s1 : ((List Int) × (List Int))) (q1 : (Str × Str × Int)) => ((if (decide (q1.2.1 = n)) then ((f_value_of d q1.1).bind fun r1 => (psnoc s1.1 (r1 - q1.2.2)).bind fun z1 => .ok (z1, s1.2)) else (if (decide (q1.1 = n)) then ((f_value_of d q1.2.1).bind fun r2 => (psnoc s1.2 (r2 + q1.2.2)).bind fun z2 => .ok (s1.1, z2)) else ((f_Steps_holds () (q1.1, q1.2.1, q1.2.2) d).bind fun r3 => (if (!r3) then (.err ⟨3, .no⟩) else .ok (s1.1, s1.2))))) : Res ((List Int) × (List Int)))) s cs = (match ends d n cs s with | none => .err ⟨3, .no⟩ | some s => .ok s)
  | [], s, _, _ => rfl
  | c :: cs, s, h, hl => by
    have hc := h c (List.mem_cons_self ..)
    have h' := fun c hc => h c (List.mem_cons_of_mem _ hc)
    simp only [List.length_cons] at hl
    rw [pfold, ends]
    by_cases e1 : c.1 = n
    · rw [if_neg (by simpa using (hc.1 e1).1), if_pos (decide_eq_true e1), if_pos e1, val1 (hc.1 e1).2, bind_ok, psnoc_ok (by omega), bind_ok, bind_ok]
      exact ends_lift h' (by simp; omega)
    · rw [if_neg e1]
      by_cases e2 : c.2.1 = n
      · rw [if_pos (decide_eq_true e2), if_pos e2, val1 (hc.2.1 e2), bind_ok, psnoc_ok (by omega), bind_ok, bind_ok]
        exact ends_lift h' (by simp; omega)
      · rw [if_neg (by simpa using e2), if_neg (by simpa using e1), if_neg e2, holds_ok (hc.2.2 e1 e2).1 (hc.2.2 e1 e2).2, bind_ok]
        by_cases e3 : vOf d c.1 - vOf d c.2.1 ≤ c.2.2
        · rw [if_neg (by simpa using e3), if_pos e3, bind_ok]
          exact ends_lift (s := s) h' (by omega)
        · rw [if_pos (by simpa using e3), if_neg e3]; rfl
theorem foldl_min : ∀ (r : List Int) (x : Int), r.foldl min x ∈ x :: r ∧ ∀ y ∈ x :: r, r.foldl min x ≤ y
  | [], x => by simp
  | z :: r, x => by
    obtain ⟨h1, h2⟩ := foldl_min r (min x z)
    refine ⟨?_, fun y hy => ?_⟩
    · show r.foldl min (min x z) ∈ _
      rcases List.mem_cons.mp h1 with h | h
      · rw [h]
        rcases Int.le_total x z with q | q
        · rw [Int.min_eq_left q]; exact List.mem_cons_self ..
        · rw [Int.min_eq_right q]; exact List.mem_cons_of_mem _ (List.mem_cons_self ..)
      · exact List.mem_cons_of_mem _ (List.mem_cons_of_mem _ h)
    · show r.foldl min (min x z) ≤ y
      have h3 := h2 (min x z) (List.mem_cons_self ..)
      rcases List.mem_cons.mp hy with h | h
      · rw [h]; omega
      · rcases List.mem_cons.mp h with h | h
        · rw [h]; omega
        · exact h2 y (List.mem_cons_of_mem _ h)
theorem any_min {r : List Int} {x M : Int} : ((x :: r).any fun h => decide (h < M)) = decide (r.foldl min x < M) := by
  obtain ⟨h1, h2⟩ := foldl_min r x
  by_cases e : r.foldl min x < M
  · rw [decide_eq_true e]
    exact List.any_eq_true.mpr ⟨_, h1, decide_eq_true e⟩
  · rw [decide_eq_false e]
    refine List.any_eq_false.mpr fun y hy => ?_
    have := h2 y hy
    simp; omega
def valF : List Int × List Int → Int
  | (x :: r, _) => r.foldl max x
  | ([], y :: r) => r.foldl min y
  | ([], []) => 0
def finF (s : List Int × List Int) : Option Int := if (s.2.any fun h => decide (h < valF s)) then none else some (valF s)
theorem high_for {v : Int} : ∀ {hs : List Int}, pfor (fun (s4 : Unit) (q2 : Int) => ((if (decide (q2 < v)) then .ok (.rt (none : (Option Int))) else .ok (.nx ())) : Res (Fl Unit ((Option Int))))) () hs = .ok (if (hs.any fun h => decide (h < v)) then .rt none else .nx ())
  | [] => rfl
  | h :: hs => by
    rw [pfor, List.any_cons]
    by_cases e : h < v
    · rw [if_pos (decide_eq_true e), bind_ok, decide_eq_true e, Bool.true_or]; rfl
    · rw [if_neg (by simpa using e), bind_ok, decide_eq_false e, Bool.false_or]
      exact high_for
theorem first_fin {t : List Str × List Con} {d : List (Str × Int)} {n : Str} (h : ∀ c ∈ t.2, Fin d n c) (hl : t.2.length < 900) : f__law_first t n d = .ok ((ends d n t.2 ([], [])).bind finF) := by
  have e := ends_first (s := ([], [])) h (by simp; omega)
  unfold f__law_first
  simp only [lt_def]
  rw [e]
  cases he : ends d n t.2 ([], []) with
  | none => rfl
  | some s =>
    obtain ⟨lo, hi⟩ := s
    show Res.noerr ((Res.ok (Fl.nx (lo, hi))).thn _ _) = _
    rw [thn_nx]
    have hv : ∀ k : Int → Res (Option Int), (((if (decide ((0 : Int) < (lo.length : Int))) then ((pmaxI lo).bind fun r5 => .ok (r5)) else (((if (decide ((0 : Int) < (hi.length : Int))) then ((pminI hi).bind fun r6 => .ok (r6)) else .ok ((0 : Int))) : Res (Int)).bind fun s2 => .ok (s2))) : Res (Int)).bind k) = k (valF (lo, hi)) := by
      intro k
      cases lo with
      | cons x r => rw [if_pos (by simp)]; rfl
      | nil =>
        cases hi with
        | cons y r => rw [if_neg (by simp), if_pos (by simp)]; rfl
        | nil => rfl
    rw [hv]
    show Res.noerr (Res.thn _ _ _) = _
    rw [high_for]
    show _ = Res.ok (finF (lo, hi))
    unfold finF
    show Res.noerr (Res.thn (.ok (if (hi.any fun h => decide (h < valF (lo, hi))) = true then _ else _)) _ _) = .ok (if (hi.any fun h => decide (h < valF (lo, hi))) = true then _ else _)
    cases hi.any fun h => decide (h < valF (lo, hi)) <;> rfl
theorem lift_fin {t : List Str × List Con} {d : List (Str × Int)} {n : Str} (h : ∀ c ∈ t.2, Fin d n c) (hl : t.2.length < 900) : f_Steps_lift () t n d = (match (ends d n t.2 ([], [])).bind finF with | none => .err ⟨3, .no⟩ | some v => .ok v) := by
  have e := ends_lift (s := ([], [])) h (by simp; omega)
  unfold f_Steps_lift
  simp only [lt_def]
  rw [e]
  cases he : ends d n t.2 ([], []) with
  | none => rfl
  | some s =>
    obtain ⟨lo, hi⟩ := s
    rw [bind_ok]
    show _ = (match finF (lo, hi) with | none => _ | some v => _)
    unfold finF
    cases lo with
    | nil =>
      rw [if_pos (by simp)]
      cases hi with
      | nil => rfl
      | cons y r =>
        have : ((y :: r).any fun h => decide (h < valF ([], y :: r))) = false := by rw [any_min]; exact decide_eq_false (Int.lt_irrefl _)
        rw [this]; rfl
    | cons x u =>
      rw [if_neg (by simp; omega)]
      cases hi with
      | nil => rfl
      | cons y r =>
        rw [if_pos (by simp)]
        show Res.bind (.ok (decide (r.foldl min y < u.foldl max x), ())) _ = _
        have : ((y :: r).any fun h => decide (h < valF (x :: u, y :: r))) = decide (r.foldl min y < u.foldl max x) := any_min
        rw [this]
        cases decide (r.foldl min y < u.foldl max x) <;> rfl
theorem lifted_ok {t : List Str × List Con} {d : List (Str × Int)} {n : Str} (h : ∀ c ∈ t.2, Fin d n c) (hl : t.2.length < 900) : f__law_lifted t n d ((ends d n t.2 ([], [])).bind finF) = .ok true := by
  unfold f__law_lifted
  rw [lift_fin h hl]
  cases (ends d n t.2 ([], [])).bind finF with
  | none => rfl
  | some v => simp [ptry, punwrap, Res.noerr]
theorem ret_pml_sub {α : Type} {f : α → Res (Option α)} : ∀ {xs : List α}, (∀ x ∈ xs, f x = .ok (some x) ∨ f x = .ok none) → Ret (pml f xs) fun ys => ys.Sublist xs
  | [], _ => ⟨[], rfl, .slnil⟩
  | x :: xs, h => by
    obtain ⟨ys, e, hs⟩ := ret_pml_sub fun y hy => h y (List.mem_cons_of_mem _ hy)
    rcases h x (List.mem_cons_self ..) with q | q
    · exact ⟨x :: ys, by rw [pml, q, bind_ok, e, bind_ok]; rfl, hs.cons₂ x⟩
    · exact ⟨ys, by rw [pml, q, bind_ok, e, bind_ok]; rfl, hs.cons x⟩
theorem lift_right {l : List Int} {t : List Str × List Con} (hl : Src2 l) (ht : GT t) : Ret (f__law_lift_right l t) GR := by
  refine ret_noerr (ret_thn (ret_for (fun _ => Src2) Src2 (fun _ => False) hl (fun _ h => h) fun pre n post s e hs => ?_) (fun s hs => ret_ok ⟨rfl, hs⟩) fun _ h => h.elim)
  have hn : n ∈ t.1 := by rw [e]; simp
  have hne : n ≠ ("" : Str) := pool8_ne n (ht.1.subset hn)
  refine ret_lt (ret_bind (ret_fold (fun pre (s : List Int × List (Str × Int)) => Src2 s.1 ∧ s.2.length ≤ pre.length ∧ ∀ m ∈ pre, m ≠ n → m ∈ dkeys s.2) ⟨hs, Nat.le_refl _, by simp⟩ ?_) fun s2 h2 => ?_)
  · rintro pre x post s e ⟨i1, i2, i3⟩
    have hp : pre.length < 8 := by have := ht.2.1; rw [e] at this; simp at this; omega
    refine ret_if (fun h => ?_) fun h => ?_
    · refine ret_bind (draw_ok i1 (by omega) (by omega)) fun r hr => ret_eq (pdput_ok (by omega)) (ret_ok ⟨hr.2, ?_, fun m hm hmn => ?_⟩)
      · have := dput_len (d := s.2) (k := x) (x := r.1 - 4)
        rw [List.length_append]; simp; omega
      · refine mem_dkeys_put.mpr ?_
        rcases List.mem_append.mp hm with h | h
        · exact .inr (i3 m h hmn)
        · exact .inl (List.mem_singleton.mp h)
    · have hx : x = n := by simpa using h
      refine ret_ok ⟨i1, by rw [List.length_append]; show s.2.length ≤ _; omega, fun m hm hmn => ?_⟩
      rcases List.mem_append.mp hm with h | h
      · exact i3 m h hmn
      · exact absurd ((List.mem_singleton.mp h).trans hx) hmn
  · obtain ⟨i1, i2, i3⟩ := h2
    obtain ⟨T, hT⟩ := tab_ok (d := s2.2)
    have hk : (dkeys s2.2).length < 64 := by have := ht.2.1; simp [dkeys]; omega
    have has : ∀ m, m ∈ ("" : Str) :: t.1 → m ≠ n → Has s2.2 m := fun m hm hmn => by
      rcases List.mem_cons.mp hm with h | h
      · exact .inl h
      · exact .inr (i3 m h hmn)
    have fin : ∀ c ∈ t.2, Fin s2.2 n c := fun c hc => by
      obtain ⟨g1, g2, g3⟩ := ht.2.2.2 c hc
      refine ⟨fun h1 => ?_, fun h2 => ?_, fun h1 h2 => ⟨has _ g1 h1, has _ g2 h2⟩⟩
      · have : c.2.1 ≠ n := fun z => hne (h1 ▸ g3 (h1.trans z.symm))
        exact ⟨this, has _ g2 this⟩
      · exact has _ g1 fun z => hne (z ▸ g3 (z.trans h2.symm))
    refine ret_lt (ret_bind (P := fun q : List Int × List Con => Src2 q.1 ∧ q.2.Sublist t.2) (ret_bind (draw_ok i1 (by omega) (by omega)) fun r2 g2 => ret_if (fun _ => ret_bind (ret_pml_sub fun c hc => ?_) fun r6 g6 => ret_lt (ret_ok ⟨g2.2, g6⟩)) fun _ => ret_ok ⟨g2.2, List.Sublist.refl _⟩) fun s4 h4 => ret_bind (draw_ok h4.1 (by omega) (by omega)) fun r7 h7 => ret_lt ?_)
    · by_cases z : n ∈ [c.1, c.2.1]
      · rw [if_pos (decide_eq_true z)]; exact .inl rfl
      · rw [if_neg (by simpa using z)]
        simp only [List.mem_cons, List.not_mem_nil, or_false, not_or] at z
        have f := (fin c hc).2.2 (fun q => z.1 q.symm) fun q => z.2 q.symm
        rw [val2 f.1, bind_ok, val2 f.2, bind_ok, bind_ok]
        cases decide (vOf s2.2 c.1 - vOf s2.2 c.2.1 ≤ c.2.2)
        · exact .inr rfl
        · exact .inl rfl
    · refine ret_bind (P := fun q : List Con => q.Sublist t.2) (ret_if (fun h => ret_bind (ret_pml_sub fun c hc => ?_) fun r9 g9 => ret_lt (ret_ok (g9.trans h4.2))) fun _ => ret_ok h4.2) fun s5 h5 => ret_bind (P := fun q : List Con => q.Sublist t.2) (ret_if (fun _ => ret_lt (ret_ok ?_)) fun _ => ret_ok h5) fun s6 h6 => ret_lt ?_
      · have h : r7.1 < 2 := of_decide_eq_true h
        have h0 := h7.1.1
        have : ∃ x, psel [c.1, c.2.1] r7.1 = .ok x := by
          rcases (show r7.1 = 0 ∨ r7.1 = 1 by omega) with q | q <;> rw [q]
          · exact ⟨_, rfl⟩
          · exact ⟨_, rfl⟩
        obtain ⟨x, hx⟩ := this
        rw [hx, bind_ok]
        cases !decide (x = n)
        · exact .inr rfl
        · exact .inl rfl
      · rw [List.map_id']
        exact (List.filter_sublist ..).trans h5
      · have fin6 : ∀ c ∈ (t.1, s6).2, Fin s2.2 n c := fun c hc => fin c (h6.subset hc)
        have hl6 : (t.1, s6).2.length < 900 := by have := h6.length_le; have := ht.2.2.1; show s6.length < _; omega
        exact ret_eq (psortS_ok hk) (ret_eq hT (ret_lt (ret_eq (first_fin fin6 hl6) (ret_eq (lifted_ok fin6 hl6) (ret_if (fun h => nomatch h) fun _ => ret_eq (psortS_ok hk) (ret_eq hT (ret_if (fun h => absurd rfl (not_dec h)) fun _ => ret_ok h7.2)))))))
theorem law_pure {ns : List Int} (_ : ns.length ≤ 63) : f_law ns = .ok true := by
  refine ret_to (ret_noerr (ret_bind (source_ok (by omega)) fun r1 h1 => ret_bind (theory_ok h1) fun r2 h2 => ret_lt (ret_bind (source_ok (by omega)) fun r3 h3 => ret_lt (ret_eq (guard_ok (by omega)) ?_))))
  have ha : Asc r2.1.1 := List.Pairwise.sublist h2.2.1 pool8_asc
  have hl : r2.1.1.length ≤ 4 := h2.2.2.1
  refine ret_thn (ret_for (fun _ => Src2) (fun _ => True) (fun _ => False) h3 (fun _ _ => trivial) fun pre i post s _ hs => ?_) (fun s _ => ?_) fun _ h => h.elim
  · refine ret_bind (valid_right hs (by omega)) fun r5 h5 => ret_bind (P := fun q : Bool × List Int => q.1 = false ∧ Src2 q.2) (ret_if (fun h => ?_) fun _ => ret_bind (holds_right h5.2 (by omega)) fun r6 h6 => ret_ok ⟨by rw [h6.1]; rfl, h6.2⟩) fun r7 h7 => ret_if (fun h => ?_) fun _ => ret_ok h7.2
    · rw [h5.1] at h; exact nomatch h
    · rw [h7.1] at h; exact nomatch h
  · refine ret_if (fun h => absurd rfl (not_dec h)) fun _ => ret_bind (source_ok (by omega)) fun r8 h8 => ret_lt (ret_bind (rename_right h8 h2.2) fun r9 h9 => ret_bind (P := fun q : Bool × List Int => q.1 = false ∧ Src2 q.2) (ret_if (fun h => ?_) fun _ => ret_bind (pin_right h9.2 (by omega) ha) fun r6 h6 => ret_ok ⟨by rw [h6.1]; rfl, h6.2⟩) fun r7 h7 => ret_if (fun h => ?_) fun _ => ret_bind (ground_right h7.2) fun r12 h12 => ret_bind (P := fun q : Bool × Unit => q.1 = true) (ret_if (fun _ => ret_bind (source_ok (by omega)) fun r13 h13 => ret_bind (lift_right h13 h2.2) fun r14 h14 => ret_ok h14.1) fun h => absurd h12.1 h) fun r15 h15 => ret_ok h15)
    · rw [h9.1] at h; exact nomatch h
    · rw [h7.1] at h; exact nomatch h
end Sl
namespace Sl
open PySem PySem.Spec PyProof.Rows L2 Mi
local macro_rules | `(tactic| walk_at "subc") => `(tactic| first | exact Sub.nil | (refine Sub.same ?_; walk_at "subc") | (refine Sub.any ?_; walk_at "subc"))
local macro_rules | `(tactic| walk_at "nonn") => `(tactic| (intro x S H v h e; subst e; first | (obtain ⟨_, _, h, _⟩ := h; cases h; done) | (cases h; done)))
def topS (i : Nat) : Stmt := PySem.Challenge.pw_shadowlinks_k14_step_constraints.main.body.getD i (.Pass ⟨0, 0, 0, 0⟩)
def clsB : Stmt → List Stmt
  | .ClassDef (body := b) .. => b
  | _ => []
def topM (i j : Nat) : Stmt := (clsB (topS i)).getD j (.Pass ⟨0, 0, 0, 0⟩)
abbrev N_Kind_is_valid : List Str := ["self", "names", "constraint", "name"]
theorem sc_Kind_is_valid : FnScope N_Kind_is_valid ["self", "names", "constraint"] (defScope (topM 7 2)) := ⟨rfl, rfl, rfl, by decide +kernel, rfl, by decide +kernel, by decide +kernel⟩
abbrev N_Steps_names_in : List Str := ["self", "constraint", "name"]
theorem sc_Steps_names_in : FnScope N_Steps_names_in ["self", "constraint"] (defScope (topM 11 1)) := ⟨rfl, rfl, rfl, by decide +kernel, rfl, by decide +kernel, by decide +kernel⟩
abbrev N_Steps_is_valid : List Str := ["self", "names", "constraint", "__class__"]
theorem sc_Steps_is_valid : NdefX.NScope N_Steps_is_valid ["self", "names", "constraint"] ["__class__"] (defScope (topM 11 2)) := NdefX.nscope_by (by decide +kernel)
abbrev N_Steps_holds : List Str := ["self", "constraint", "assignment", "x", "y", "bound"]
theorem sc_Steps_holds : FnScope N_Steps_holds ["self", "constraint", "assignment"] (defScope (topM 11 3)) := ⟨rfl, rfl, rfl, by decide +kernel, rfl, by decide +kernel, by decide +kernel⟩
abbrev N_Steps_contradiction : List Str := ["self"]
theorem sc_Steps_contradiction : FnScope N_Steps_contradiction ["self"] (defScope (topM 11 4)) := ⟨rfl, rfl, rfl, by decide +kernel, rfl, by decide +kernel, by decide +kernel⟩
abbrev N_Steps_rename : List Str := ["self", "theory", "table", "names", "name", "x", "y", "bound"]
theorem sc_Steps_rename : FnScope N_Steps_rename ["self", "theory", "table"] (defScope (topM 11 5)) := ⟨rfl, rfl, rfl, by decide +kernel, rfl, by decide +kernel, by decide +kernel⟩
abbrev N_Steps_lift : List Str := ["self", "theory", "name", "assignment", "lows", "highs", "x", "y", "bound"]
theorem sc_Steps_lift : FnScope N_Steps_lift ["self", "theory", "name", "assignment"] (defScope (topM 11 7)) := ⟨rfl, rfl, rfl, by decide +kernel, rfl, by decide +kernel, by decide +kernel⟩
abbrev N_Steps_ground : List Str := ["self", "theory", "constraint"]
theorem sc_Steps_ground : FnScope N_Steps_ground ["self", "theory"] (defScope (topM 11 8)) := ⟨rfl, rfl, rfl, by decide +kernel, rfl, by decide +kernel, by decide +kernel⟩
abbrev N_Steps_pin : List Str := ["self", "names", "assignment", "constraints", "name"]
theorem sc_Steps_pin : FnScope N_Steps_pin ["self", "names", "assignment"] (defScope (topM 11 13)) := ⟨rfl, rfl, rfl, by decide +kernel, rfl, by decide +kernel, by decide +kernel⟩
abbrev N_value_of : List Str := ["assignment", "name"]
theorem sc_value_of : FnScope N_value_of ["assignment", "name"] (defScope (topS 5)) := ⟨rfl, rfl, rfl, by decide +kernel, rfl, by decide +kernel, by decide +kernel⟩
abbrev N_merge_names : List Str := ["lists", "found", "names", "name"]
theorem sc_merge_names : FnScope N_merge_names ["lists"] (defScope (topS 9)) := ⟨rfl, rfl, rfl, by decide +kernel, rfl, by decide +kernel, by decide +kernel⟩
abbrev N__law_source : List Str := ["_law_script", "_law_k", "_law_number"]
theorem sc__law_source : FnScope N__law_source ["_law_script", "_law_k"] (defScope (topS 13)) := ⟨rfl, rfl, rfl, by decide +kernel, rfl, by decide +kernel, by decide +kernel⟩
abbrev N__law_draw : List Str := ["_law_source_here", "_law_limit", "_law_number", "_law_mixed"]
theorem sc__law_draw : FnScope N__law_draw ["_law_source_here", "_law_limit"] (defScope (topS 14)) := ⟨rfl, rfl, rfl, by decide +kernel, rfl, by decide +kernel, by decide +kernel⟩
abbrev N__law_some : List Str := ["_law_source_here", "_law_names", "_law_most", "_law_found", "_law_name"]
theorem sc__law_some : FnScope N__law_some ["_law_source_here", "_law_names", "_law_most"] (defScope (topS 15)) := ⟨rfl, rfl, rfl, by decide +kernel, rfl, by decide +kernel, by decide +kernel⟩
abbrev N__law_bound : List Str := ["_law_source_here"]
theorem sc__law_bound : FnScope N__law_bound ["_law_source_here"] (defScope (topS 16)) := ⟨rfl, rfl, rfl, by decide +kernel, rfl, by decide +kernel, by decide +kernel⟩
abbrev N__law_constraint : List Str := ["_law_source_here", "_law_names", "_law_ends", "_law_x", "_law_y"]
theorem sc__law_constraint : FnScope N__law_constraint ["_law_source_here", "_law_names"] (defScope (topS 17)) := ⟨rfl, rfl, rfl, by decide +kernel, rfl, by decide +kernel, by decide +kernel⟩
abbrev N__law_theory : List Str := ["_law_source_here", "_law_pool", "_law_names", "_law_constraints", "_law_k"]
theorem sc__law_theory : FnScope N__law_theory ["_law_source_here"] (defScope (topS 18)) := ⟨rfl, rfl, rfl, by decide +kernel, rfl, by decide +kernel, by decide +kernel⟩
abbrev N__law_value : List Str := ["_law_values", "_law_name"]
theorem sc__law_value : FnScope N__law_value ["_law_values", "_law_name"] (defScope (topS 19)) := ⟨rfl, rfl, rfl, by decide +kernel, rfl, by decide +kernel, by decide +kernel⟩
abbrev N__law_same : List Str := ["_law_actual", "_law_expected", "_law_name"]
theorem sc__law_same : FnScope N__law_same ["_law_actual", "_law_expected"] (defScope (topS 20)) := ⟨rfl, rfl, rfl, by decide +kernel, rfl, by decide +kernel, by decide +kernel⟩
abbrev N__law_valid_right : List Str := ["_law_source_here", "_law_names", "_law_ends", "_law_x", "_law_y", "_law_expected", "_law_constraint_here", "_law_actual", "_law_name"]
theorem sc__law_valid_right : FnScope N__law_valid_right ["_law_source_here", "_law_names"] (defScope (topS 21)) := ⟨rfl, rfl, rfl, by decide +kernel, rfl, by decide +kernel, by decide +kernel⟩
abbrev N__law_holds_right : List Str := ["_law_source_here", "_law_names", "_law_values", "_law_name", "_law_before", "_law_x", "_law_y", "_law_difference", "_law_near", "_law_actual"]
theorem sc__law_holds_right : FnScope N__law_holds_right ["_law_source_here", "_law_names"] (defScope (topS 22)) := ⟨rfl, rfl, rfl, by decide +kernel, rfl, by decide +kernel, by decide +kernel⟩
abbrev N__law_rename_right : List Str := ["_law_source_here", "_law_theory_here", "_law_kept", "_law_wide", "_law_start", "_law_step", "_law_k", "_law_order", "_law_free", "_law_table", "_law_moved", "_law_before", "_law_names", "_law_constraints", "_law_name", "_law_c"]
theorem sc__law_rename_right : FnScope N__law_rename_right ["_law_source_here", "_law_theory_here"] (defScope (topS 23)) := ⟨rfl, rfl, rfl, by decide +kernel, rfl, by decide +kernel, by decide +kernel⟩
abbrev N__law_pin_right : List Str := ["_law_source_here", "_law_names", "_law_values", "_law_expected", "_law_name", "_law_value_here", "_law_actual", "_law_constraint_here"]
theorem sc__law_pin_right : FnScope N__law_pin_right ["_law_source_here", "_law_names"] (defScope (topS 24)) := ⟨rfl, rfl, rfl, by decide +kernel, rfl, by decide +kernel, by decide +kernel⟩
abbrev N__law_ground_right : List Str := ["_law_source_here", "_law_bounds", "_law_actual", "_law_k", "_law_bound_here"]
theorem sc__law_ground_right : FnScope N__law_ground_right ["_law_source_here"] (defScope (topS 25)) := ⟨rfl, rfl, rfl, by decide +kernel, rfl, by decide +kernel, by decide +kernel⟩
abbrev N__law_first : List Str := ["_law_theory_here", "_law_name", "_law_values", "_law_lows", "_law_highs", "_law_constraint_here", "_law_value_here", "_law_high"]
theorem sc__law_first : FnScope N__law_first ["_law_theory_here", "_law_name", "_law_values"] (defScope (topS 26)) := ⟨rfl, rfl, rfl, by decide +kernel, rfl, by decide +kernel, by decide +kernel⟩
abbrev N__law_lifted : List Str := ["_law_theory_here", "_law_name", "_law_values", "_law_expected", "_law_actual", "e"]
theorem sc__law_lifted : FnScope N__law_lifted ["_law_theory_here", "_law_name", "_law_values", "_law_expected"] (defScope (topS 27)) := ⟨rfl, rfl, rfl, by decide +kernel, rfl, by decide +kernel, by decide +kernel⟩
abbrev N__law_lift_right : List Str := ["_law_source_here", "_law_theory_here", "_law_name", "_law_values", "_law_other", "_law_given", "_law_side", "_law_asked", "_law_before", "_law_c"]
theorem sc__law_lift_right : FnScope N__law_lift_right ["_law_source_here", "_law_theory_here"] (defScope (topS 28)) := ⟨rfl, rfl, rfl, by decide +kernel, rfl, by decide +kernel, by decide +kernel⟩
abbrev N_law : List Str := ["_law_script", "_law_theory_here", "_law_source_here", "_law_k"]
theorem sc_law : FnScope N_law ["_law_script"] (defScope (topS 29)) := ⟨rfl, rfl, rfl, by decide +kernel, rfl, by decide +kernel, by decide +kernel⟩
structure Txt (P : Program) (K : PySem.W.Frag) (mg : Str → Option Value) (A : Nat → Addr) (D : Nat → FuncData) : Prop where
  g_ShadowError : mg "ShadowError" = some (.ref (A 2))
  g_NoSolution : mg "NoSolution" = some (.ref (A 3))
  E0_NoSolution : Err0 K mg "NoSolution" (A 3)
  x_NoSolution_ShadowError : PySem.W.exmOne K (.ref (A 3)) (.ref (A 2)) = some true
  k_NoSolution_ShadowError : PySem.W.kitOne K (.ref (A 3)) (.ref (A 2)) = some true
  x_NoSolution_NoSolution : PySem.W.exmOne K (.ref (A 3)) (.ref (A 3)) = some true
  k_NoSolution_NoSolution : PySem.W.kitOne K (.ref (A 3)) (.ref (A 3)) = some true
  kv_NoSolution : PySem.W.kitOne K (.ref (A 3)) (.type "ValueError") = some true
  g_Kind : mg "Kind" = some (.ref (A 7))
  cl_Kind : Cls K (A 7)
  cr_Kind : ClX.CRead K (A 7) (.type "type")
  sf_Kind : PySem.W.selfFirst K (A 7) = true
  mp_Kind : MkPl K (A 7)
  g_Steps : mg "Steps" = some (.ref (A 11))
  cl_Steps : Cls K (A 11)
  cr_Steps : ClX.CRead K (A 11) (.type "type")
  sf_Steps : PySem.W.selfFirst K (A 11) = true
  mp_Steps : MkPl K (A 11)
  F_Kind_is_valid : Fun K "is_valid" "Kind.is_valid" (topM 7 2) (A 1142) (D 1142)
  b_Kind_is_valid : Binds K (D 1142) ["self", "names", "constraint"] []
  M_Kind_is_valid : Meth K (A 7) "is_valid" (A 1142)
  F_Steps_names_in : Fun K "names_in" "Steps.names_in" (topM 11 1) (A 1221) (D 1221)
  b_Steps_names_in : Binds K (D 1221) ["self", "constraint"] []
  M_Steps_names_in : Meth K (A 11) "names_in" (A 1221)
  F_Steps_is_valid : FunC K "is_valid" "Steps.is_valid" (topM 11 2) (A 4222) (A 5222) (A 1222) (D 1222)
  b_Steps_is_valid : Binds K (D 1222) ["self", "names", "constraint"] []
  M_Steps_is_valid : Meth K (A 11) "is_valid" (A 1222)
  S_Steps_is_valid : SupK K P (A 11) (A 11) (A 4222) (A 5222) "is_valid" (A 1142)
  F_Steps_holds : Fun K "holds" "Steps.holds" (topM 11 3) (A 1223) (D 1223)
  b_Steps_holds : Binds K (D 1223) ["self", "constraint", "assignment"] []
  M_Steps_holds : Meth K (A 11) "holds" (A 1223)
  F_Steps_contradiction : Fun K "contradiction" "Steps.contradiction" (topM 11 4) (A 1224) (D 1224)
  b_Steps_contradiction : Binds K (D 1224) ["self"] []
  M_Steps_contradiction : Meth K (A 11) "contradiction" (A 1224)
  F_Steps_rename : Fun K "rename" "Steps.rename" (topM 11 5) (A 1225) (D 1225)
  b_Steps_rename : Binds K (D 1225) ["self", "theory", "table"] []
  M_Steps_rename : Meth K (A 11) "rename" (A 1225)
  F_Steps_lift : Fun K "lift" "Steps.lift" (topM 11 7) (A 1227) (D 1227)
  b_Steps_lift : Binds K (D 1227) ["self", "theory", "name", "assignment"] []
  M_Steps_lift : Meth K (A 11) "lift" (A 1227)
  F_Steps_ground : Fun K "ground" "Steps.ground" (topM 11 8) (A 1228) (D 1228)
  b_Steps_ground : Binds K (D 1228) ["self", "theory"] []
  M_Steps_ground : Meth K (A 11) "ground" (A 1228)
  F_Steps_pin : Fun K "pin" "Steps.pin" (topM 11 13) (A 1233) (D 1233)
  b_Steps_pin : Binds K (D 1233) ["self", "names", "assignment"] []
  M_Steps_pin : Meth K (A 11) "pin" (A 1233)
  F_value_of : Fun K "value_of" "value_of" (topS 5) (A 5) (D 5)
  g_value_of : mg "value_of" = some (.ref (A 5))
  b_value_of : Binds K (D 5) ["assignment", "name"] []
  F_merge_names : Fun K "merge_names" "merge_names" (topS 9) (A 9) (D 9)
  g_merge_names : mg "merge_names" = some (.ref (A 9))
  F__law_source : Fun K "_law_source" "_law_source" (topS 13) (A 13) (D 13)
  g__law_source : mg "_law_source" = some (.ref (A 13))
  b__law_source : Binds K (D 13) ["_law_script", "_law_k"] []
  F__law_draw : Fun K "_law_draw" "_law_draw" (topS 14) (A 14) (D 14)
  g__law_draw : mg "_law_draw" = some (.ref (A 14))
  b__law_draw : Binds K (D 14) ["_law_source_here", "_law_limit"] []
  F__law_some : Fun K "_law_some" "_law_some" (topS 15) (A 15) (D 15)
  g__law_some : mg "_law_some" = some (.ref (A 15))
  b__law_some : Binds K (D 15) ["_law_source_here", "_law_names", "_law_most"] []
  F__law_bound : Fun K "_law_bound" "_law_bound" (topS 16) (A 16) (D 16)
  g__law_bound : mg "_law_bound" = some (.ref (A 16))
  b__law_bound : Binds K (D 16) ["_law_source_here"] []
  F__law_constraint : Fun K "_law_constraint" "_law_constraint" (topS 17) (A 17) (D 17)
  g__law_constraint : mg "_law_constraint" = some (.ref (A 17))
  b__law_constraint : Binds K (D 17) ["_law_source_here", "_law_names"] []
  F__law_theory : Fun K "_law_theory" "_law_theory" (topS 18) (A 18) (D 18)
  g__law_theory : mg "_law_theory" = some (.ref (A 18))
  b__law_theory : Binds K (D 18) ["_law_source_here"] []
  F__law_value : Fun K "_law_value" "_law_value" (topS 19) (A 19) (D 19)
  g__law_value : mg "_law_value" = some (.ref (A 19))
  b__law_value : Binds K (D 19) ["_law_values", "_law_name"] []
  F__law_same : Fun K "_law_same" "_law_same" (topS 20) (A 20) (D 20)
  g__law_same : mg "_law_same" = some (.ref (A 20))
  b__law_same : Binds K (D 20) ["_law_actual", "_law_expected"] []
  F__law_valid_right : Fun K "_law_valid_right" "_law_valid_right" (topS 21) (A 21) (D 21)
  g__law_valid_right : mg "_law_valid_right" = some (.ref (A 21))
  b__law_valid_right : Binds K (D 21) ["_law_source_here", "_law_names"] []
  F__law_holds_right : Fun K "_law_holds_right" "_law_holds_right" (topS 22) (A 22) (D 22)
  g__law_holds_right : mg "_law_holds_right" = some (.ref (A 22))
  b__law_holds_right : Binds K (D 22) ["_law_source_here", "_law_names"] []
  F__law_rename_right : Fun K "_law_rename_right" "_law_rename_right" (topS 23) (A 23) (D 23)
  g__law_rename_right : mg "_law_rename_right" = some (.ref (A 23))
  b__law_rename_right : Binds K (D 23) ["_law_source_here", "_law_theory_here"] []
  F__law_pin_right : Fun K "_law_pin_right" "_law_pin_right" (topS 24) (A 24) (D 24)
  g__law_pin_right : mg "_law_pin_right" = some (.ref (A 24))
  b__law_pin_right : Binds K (D 24) ["_law_source_here", "_law_names"] []
  F__law_ground_right : Fun K "_law_ground_right" "_law_ground_right" (topS 25) (A 25) (D 25)
  g__law_ground_right : mg "_law_ground_right" = some (.ref (A 25))
  b__law_ground_right : Binds K (D 25) ["_law_source_here"] []
  F__law_first : Fun K "_law_first" "_law_first" (topS 26) (A 26) (D 26)
  g__law_first : mg "_law_first" = some (.ref (A 26))
  b__law_first : Binds K (D 26) ["_law_theory_here", "_law_name", "_law_values"] []
  F__law_lifted : Fun K "_law_lifted" "_law_lifted" (topS 27) (A 27) (D 27)
  g__law_lifted : mg "_law_lifted" = some (.ref (A 27))
  b__law_lifted : Binds K (D 27) ["_law_theory_here", "_law_name", "_law_values", "_law_expected"] []
  F__law_lift_right : Fun K "_law_lift_right" "_law_lift_right" (topS 28) (A 28) (D 28)
  g__law_lift_right : mg "_law_lift_right" = some (.ref (A 28))
  b__law_lift_right : Binds K (D 28) ["_law_source_here", "_law_theory_here"] []
  F_law : Fun K "law" "law" (topS 29) (A 29) (D 29)
  g_law : mg "law" = some (.ref (A 29))
  b_law : Binds K (D 29) ["_law_script"] []
  z_len : mg "len" = none
  z_int : mg "int" = none
  z_bool : mg "bool" = none
  z_list : mg "list" = none
  z_tuple : mg "tuple" = none
  z_dict : mg "dict" = none
  z_range : mg "range" = none
  z_sorted : mg "sorted" = none
  z_isinstance : mg "isinstance" = none
  z_all : mg "all" = none
  z_max : mg "max" = none
  z_min : mg "min" = none
  z_ValueError : mg "ValueError" = none
  z_super : mg "super" = none
section
variable {P : Program} {w : World} {K : PySem.W.Frag} {mg : Str → Option Value} {base : Heap} {A : Nat → Addr} {D : Nat → FuncData}
def pre_Steps_names_in (K : PySem.W.Frag) (A : Nat → Addr) : List Ar → Cl → Prop := fun as d => ∃ (self : Unit) (constraint : (Str × Str × Int)), as = [.val ((yKind (A 11)) self), .val ((yTr K yStr yStr yInt) constraint)] ∧ d = ⟨((List Str)), .ok (f_Steps_names_in self constraint), fun r => .val ((yTup K yStr) r), fun r => []⟩
theorem ok_Steps_names_in (T : Txt P K mg A D) : FnOk P w K mg base CX0 1 (A 1221) (D 1221) ["self", "constraint"] (spM A (pre_Steps_names_in K A)) := by
  refine T.F_Steps_names_in.ok sc_Steps_names_in (fun vs H Q E h => ?_) (fun cdv A' outer s H vs Q E hr h => ?_)
  · exact spM_len h fun as d hp => by obtain ⟨self, constraint, rfl, rfl⟩ := hp; rfl
  · have hu := hu_of hr
    refine ⟨_, (pss_one (ps_ret (pe_callTy (T := "tuple") (cK_tuple (K := K) rfl) (by rfl) T.z_tuple (by decide +kernel) (pa_cons (pe_lc (own := [("name", 2)]) (g := gName 2)  rfl sc_Steps_names_in.nd (iK_tup (K := K) rfl (pe_slice (sK_tupA (K := K) rfl) (pv 1) po_none (po_some pe_int))) (blkOk_by (N := N_Steps_names_in) (sc := defScope (topM 11 1)) (by decide +kernel)) (fun _ _ _ _ _ => (pg_name (i := 2) sc_Steps_names_in.nd rfl (Or.inl rfl))) (fun _ _ _ _ _ => (pts_one (pt_cmpR op_ne (pv 2) pe_str (nomark _)))) (fun _ _ _ _ _ => (pv 2))) pa_nil)))), ?_⟩
    refine fn_run h (fun as d hp => ?_) fun as d hp => ?_
    · obtain ⟨self, constraint, rfl, rfl⟩ := hp; simp
    · obtain ⟨self, constraint, rfl, rfl⟩ := hp
      refine ⟨_, rfl, ?_⟩
      refine ws_ctx (Γ' := [.val ((yKind (A 11)) self), .val ((yTr K yStr yStr yInt) constraint), .any]) rfl ?_
      refine ws_ret ?_
      refine wx_cb ?_
      refine wa_cons ?_
      refine wx_fz ?_
      refine wx_lc (K := K) yStr yStr (fun q1 => (!decide (q1 = ("" : Str)))) (fun q1 => q1) (gk_name (by decide)) ?_
      refine wi_tup ?_
      refine wx_slT ?_
      refine wx_var rfl ?_
      refine ⟨_, rfl, ?_⟩
      refine wo_no ?_
      refine wo_some ?_
      refine wx_int ?_
      refine ⟨_, rfl, ?_⟩
      refine ⟨_, rfl, ?_⟩
      refine ⟨[constraint.1, constraint.2.1], rfl, fun q1 => ?_, ?_⟩
      · refine wg_ctx (Γ' := [.val ((yKind (A 11)) self), .val ((yTr K yStr yStr yInt) constraint), .any]) rfl ?_
        refine wg_name (show 2 < 3 by decide) ?_
        refine wt_b ?_
        refine wx_op ?_
        refine wx_var rfl ?_
        refine ⟨_, rfl, ?_⟩
        refine wx_str ?_
        refine ⟨_, rfl, ?_⟩
        refine rx_ne ?_
        refine ⟨_, rfl, ?_⟩
        refine ⟨rfl, fun _ => ?_⟩
        refine wx_var rfl ?_
        exact rfl
      refine ⟨_, rfl, ?_⟩
      refine ⟨_, rfl, ?_⟩
      refine wa_nil ?_
      refine rc_tuple (pLst K) ?_
      exact ⟨_, rfl, rfl, (by first | trivial | exact ⟨rfl, trivial⟩ | exact ⟨rfl, rfl, trivial⟩)⟩
def pre_Kind_is_valid (K : PySem.W.Frag) (A : Nat → Addr) : List Ar → Cl → Prop := fun as d => ∃ (self : Unit) (names : (List Str)) (constraint : (Str × Str × Int)), as = [.val ((yKind (A 11)) self), .val ((yTup K yStr) names), .val ((yTr K yStr yStr yInt) constraint)] ∧ d = ⟨(Bool), f_Kind_is_valid self names constraint, fun r => .val (yBl r), fun r => []⟩
theorem ok_Kind_is_valid (T : Txt P K mg A D) : FnOk P w K mg base CX0 2 (A 1142) (D 1142) ["self", "names", "constraint"] (spM A (pre_Kind_is_valid K A)) := by
  refine T.F_Kind_is_valid.ok sc_Kind_is_valid (fun vs H Q E h => ?_) (fun cdv A' outer s H vs Q E hr h => ?_)
  · exact spM_len h fun as d hp => by obtain ⟨self, names, constraint, rfl, rfl⟩ := hp; rfl
  · have hu := hu_of hr
    have G_Steps_names_in : FnOk P w K mg base CX0 1 (A 1221) (D 1221) ["self", "constraint"] (spM A (pre_Steps_names_in K A)) := ok_Steps_names_in T
    refine ⟨_, (pss_cons (ps_for PassesOwn.never rfl (iK_tup (K := K) rfl (methO_of (pe_meth (pv 0) T.cl_Steps T.M_Steps_names_in G_Steps_names_in (hr.mono (by decide)) T.b_Steps_names_in .nil pass0 (pa_cons (pv 2) pa_nil)))) (pg_name (i := 3) sc_Kind_is_valid.nd rfl (Or.inl rfl))
        (pss_one (ps_if (pt_cmpR (oP_nin (K := K) rfl hr.units) (pv 3) (pv 1) rfl)
          (pss_one (ps_ret pe_bl))
          pss_nil)))
      (pss_one (ps_ret pe_bl))), ?_⟩
    refine fn_run0 h (fun as d hp => ?_) fun as d hp => ?_
    · obtain ⟨self, names, constraint, rfl, rfl⟩ := hp; simp
    · obtain ⟨self, names, constraint, rfl, rfl⟩ := hp
      refine ⟨_, (show f_Kind_is_valid self names constraint = Res.noerr _ from rfl), ?_⟩
      refine ws_seq ?_
      refine ws_ctx (Γ' := [.val ((yKind (A 11)) self), .val ((yTup K yStr) names), .val ((yTr K yStr yStr yInt) constraint), .any]) rfl ?_
      refine ws_forF (μ := Unit) (τ := (Bool)) yStr ?_
      refine wi_tup ?_
      refine wx_meth ?_
      refine wx_var rfl ?_
      refine ⟨_, rfl, rfl, ?_⟩
      refine wa_cons ?_
      refine wx_var rfl ?_
      refine ⟨_, rfl, ?_⟩
      refine wa_nil ?_
      refine rc_callP _ _ (f_Steps_names_in self constraint) ⟨self, constraint, rfl, rfl⟩ ⟨rfl, rfl, trivial⟩ (show List.Nodup ([] : List Nat) by decide) rfl ?_
      refine ⟨_, rfl, ?_⟩
      refine ⟨_, (fun s1 : Unit => [.val ((yKind (A 11)) self), .val ((yTup K yStr) names), .val ((yTr K yStr yStr yInt) constraint), .any]), (f_Steps_names_in self constraint), _, _, _, rfl, rfl, by walk_at "subc", fun s1 q1 => ?_, fun s1 => ?_⟩
      · refine wg_name (show 3 < 4 by decide) ?_
        refine ws_ctx (Γ' := [.val ((yKind (A 11)) self), .val ((yTup K yStr) names), .val ((yTr K yStr yStr yInt) constraint), .val (yStr q1)]) rfl ?_
        refine ws_if ?_
        refine wt_b ?_
        refine wx_op ?_
        refine wx_var rfl ?_
        refine ⟨_, rfl, ?_⟩
        refine wx_var rfl ?_
        refine ⟨_, rfl, ?_⟩
        refine rx_ninD (K := K) (t := yStr) (x := q1) (ys := names) (pTup K) (Nat.le_of_ble_eq_true rfl) ?_
        refine ⟨_, rfl, ?_⟩
        refine ⟨_, _, rfl, ?_, ?_⟩
        · refine ws_ctx (Γ' := [.val ((yKind (A 11)) self), .val ((yTup K yStr) names), .val ((yTr K yStr yStr yInt) constraint), .val (yStr q1)]) rfl ?_
          refine ws_ret ?_
          refine wx_bl ?_
          refine ⟨_, rfl, ?_⟩
          exact ⟨_, rfl, rfl, (by first | trivial | exact ⟨rfl, trivial⟩ | exact ⟨rfl, rfl, trivial⟩)⟩
        · refine ws_next ?_
          exact ⟨_, rfl, by walk_at "subc"⟩
      refine ws_ctx (Γ' := [.val ((yKind (A 11)) self), .val ((yTup K yStr) names), .val ((yTr K yStr yStr yInt) constraint), .any]) rfl ?_
      refine ws_ret ?_
      refine wx_bl ?_
      exact ⟨_, rfl, rfl, (by first | trivial | exact ⟨rfl, trivial⟩ | exact ⟨rfl, rfl, trivial⟩)⟩
def pre_Steps_is_valid (K : PySem.W.Frag) (A : Nat → Addr) : List Ar → Cl → Prop := fun as d => ∃ (self : Unit) (names : (List Str)) (constraint : (Str × Str × Int)), as = [.val ((yKind (A 11)) self), .val ((yTup K yStr) names), .val ((yTr K yStr yStr yInt) constraint)] ∧ d = ⟨(Bool), f_Steps_is_valid self names constraint, fun r => .val (yBl r), fun r => []⟩
theorem ok_Steps_is_valid (T : Txt P K mg A D) : FnOk P w K mg base CX0 3 (A 1222) (D 1222) ["self", "names", "constraint"] (spM A (pre_Steps_is_valid K A)) := by
  refine T.F_Steps_is_valid.okAnd (N := N_Steps_is_valid) sc_Steps_is_valid T.S_Steps_is_valid (fnR_ok (ok_Kind_is_valid T) T.b_Kind_is_valid) rfl T.b_Steps_is_valid (fun vs H Q E h => ?_) rfl T.z_super (by decide +kernel) (by decide) rfl rfl (fun A' outer s H vs Q E hr h => ?_) (fun _ => rfl) (fun _ => rfl) (fun _ => rfl)
  · exact spM_len h fun as d hp => by obtain ⟨self, names, constraint, rfl, rfl⟩ := hp; rfl
  · obtain ⟨a, dx, h0, ha⟩ := super_self (C := A 11) h fun as d hp => by obtain ⟨self, names, constraint, rfl, rfl⟩ := hp; exact ⟨_, rfl⟩
    have hu := hu_of hr
    have G_Kind_is_valid : FnOk P w K mg base CX0 2 (A 1142) (D 1142) ["self", "names", "constraint"] (spM A (pre_Kind_is_valid K A)) := ok_Kind_is_valid T
    refine ⟨a, dx, [], _, _, h0, ha, (pa_cons (pv 1) (pa_cons (pv 2) pa_nil)), (pe_one (pe_or (pe_cmpR op_ne (pe_ix (xK_tup (K := K) rfl) (pv 2) pe_int (fun _ _ => rfl)) (pe_ix (xK_tup (K := K) rfl) (pv 2) pe_int (fun _ _ => rfl)) (nomark _)) (pe_one (pe_cmpR op_eq (pe_ix (xK_tup (K := K) rfl) (pv 2) pe_int (fun _ _ => rfl)) pe_str (nomark _))))), ?_⟩
    refine super_run (P := pObj (A 11) []) (D := A 11) h h0 fun as d hp => ?_
    obtain ⟨self, names, constraint, rfl, rfl⟩ := hp
    refine ⟨[.val ((yTup K yStr) names), .val ((yTr K yStr yStr yInt) constraint)], _, rfl, rfl, fun _ => rfl, (show 2 + 2 ≤ _ by decide), ⟨[(yTup K yStr) names, (yTr K yStr yStr yInt) constraint], rfl⟩, ?_⟩
    refine wx_andV ((!decide (constraint.1 = constraint.2.1)) || (decide (constraint.1 = ("" : Str)))) ?_
    refine wx_sup (P := pObj (A 11) []) ?_
    refine wa_cons ?_
    refine wx_var rfl ?_
    refine ⟨_, rfl, ?_⟩
    refine wa_cons ?_
    refine wx_var rfl ?_
    refine ⟨_, rfl, ?_⟩
    refine wa_nil ?_
    refine ⟨rfl, ?_⟩
    refine rc_call _ _ _ ⟨self, names, constraint, rfl, rfl⟩ ⟨rfl, rfl, rfl, trivial⟩ (show List.Nodup ([] : List Nat) by decide) rfl (.inr fun _ z => noerr_ne z) fun r1 _ => ?_
    refine ⟨_, rfl, fun _ => ?_, ?_⟩
    · refine wx_orV (decide (constraint.1 = ("" : Str))) ?_
      refine wx_op ?_
      refine wx_op ?_
      refine wx_var rfl ?_
      refine ⟨_, rfl, ?_⟩
      refine wx_int ?_
      refine ⟨_, rfl, ?_⟩
      refine rx_ixT rfl ?_
      refine ⟨_, rfl, ?_⟩
      refine wx_op ?_
      refine wx_var rfl ?_
      refine ⟨_, rfl, ?_⟩
      refine wx_int ?_
      refine ⟨_, rfl, ?_⟩
      refine rx_ixT rfl ?_
      refine ⟨_, rfl, ?_⟩
      refine rx_ne ?_
      refine ⟨_, rfl, fun _ => ?_, ?_⟩
      · refine wx_op ?_
        refine wx_op ?_
        refine wx_var rfl ?_
        refine ⟨_, rfl, ?_⟩
        refine wx_int ?_
        refine ⟨_, rfl, ?_⟩
        refine rx_ixT rfl ?_
        refine ⟨_, rfl, ?_⟩
        refine wx_str ?_
        refine ⟨_, rfl, ?_⟩
        refine rx_eq ?_
        exact ⟨rfl, rfl, rfl⟩
      exact ⟨rfl, rfl, rfl⟩
    exact ⟨_, rfl, rfl⟩
def pre_value_of (K : PySem.W.Frag) (A : Nat → Addr) : List Ar → Cl → Prop := fun as d => ∃ (assignment : (List (Str × Int))) (name : Str), as = [.val ((yDct (κ := Str) yInt) assignment), .val (yStr name)] ∧ d = ⟨(Int), f_value_of assignment name, fun r => .val (yInt r), fun r => []⟩
theorem ok_value_of (T : Txt P K mg A D) : FnOk P w K mg base CX0 1 (A 5) (D 5) ["assignment", "name"] (spM A (pre_value_of K A)) := by
  refine T.F_value_of.ok sc_value_of (fun vs H Q E h => ?_) (fun cdv A' outer s H vs Q E hr h => ?_)
  · exact spM_len h fun as d hp => by obtain ⟨assignment, name, rfl, rfl⟩ := hp; rfl
  · have hu := hu_of hr
    refine ⟨_, (pss_one (ps_ret (pe_ifExp (pt_cmpR op_eq (pv 1) pe_str (nomark _)) pe_int (pe_dget hu (pv 0) (pv 1) (fun _ _ => rfl))))), ?_⟩
    refine fn_run0 h (fun as d hp => ?_) fun as d hp => ?_
    · obtain ⟨assignment, name, rfl, rfl⟩ := hp; simp
    · obtain ⟨assignment, name, rfl, rfl⟩ := hp
      refine ⟨_, (show f_value_of assignment name = Res.noerr _ from rfl), ?_⟩
      refine ws_ctx (Γ' := [.val ((yDct (κ := Str) yInt) assignment), .val (yStr name)]) rfl ?_
      refine ws_ret ?_
      refine wx_ifM (μ := Unit) yInt ?_
      refine wt_b ?_
      refine wx_op ?_
      refine wx_var rfl ?_
      refine ⟨_, rfl, ?_⟩
      refine wx_str ?_
      refine ⟨_, rfl, ?_⟩
      refine rx_eq ?_
      refine ⟨_, rfl, ?_⟩
      refine ⟨(fun _ : Unit => [.val ((yDct (κ := Str) yInt) assignment), .val (yStr name)]), _, _, _, rfl, fun _ => ?_, fun _ => ?_, fun r2 => ?_⟩
      · refine wx_int ?_
        exact ⟨_, _, rfl, rfl, by walk_at "subc"⟩
      · refine wx_dget (t := yInt) (tk := yStr) ?_
        refine wx_var rfl ?_
        refine ⟨assignment, rfl, ?_⟩
        refine wx_var rfl ?_
        refine ⟨_, _, rfl, rfl, fun r1 => ?_⟩
        exact ⟨_, _, rfl, rfl, by walk_at "subc"⟩
      exact ⟨_, rfl, rfl, (by first | trivial | exact ⟨rfl, trivial⟩ | exact ⟨rfl, rfl, trivial⟩)⟩
def pre_Steps_holds (K : PySem.W.Frag) (A : Nat → Addr) : List Ar → Cl → Prop := fun as d => ∃ (self : Unit) (constraint : (Str × Str × Int)) (assignment : (List (Str × Int))), as = [.val ((yKind (A 11)) self), .val ((yTr K yStr yStr yInt) constraint), .val ((yDct (κ := Str) yInt) assignment)] ∧ d = ⟨(Bool), f_Steps_holds self constraint assignment, fun r => .val (yBl r), fun r => []⟩
theorem ok_Steps_holds (T : Txt P K mg A D) : FnOk P w K mg base CX0 2 (A 1223) (D 1223) ["self", "constraint", "assignment"] (spM A (pre_Steps_holds K A)) := by
  refine T.F_Steps_holds.ok sc_Steps_holds (fun vs H Q E h => ?_) (fun cdv A' outer s H vs Q E hr h => ?_)
  · exact spM_len h fun as d hp => by obtain ⟨self, constraint, assignment, rfl, rfl⟩ := hp; rfl
  · have hu := hu_of hr
    have G_value_of : FnOk P w K mg base CX0 1 (A 5) (D 5) ["assignment", "name"] (spM A (pre_value_of K A)) := ok_value_of T
    refine ⟨_, (pss_cons (ps_asg (pv 1) (gK_tup (K := K) 3 rfl rfl (pgs_cons (pg_name (i := 3) sc_Steps_holds.nd rfl (Or.inl rfl)) (pgs_cons (pg_name (i := 4) sc_Steps_holds.nd rfl (Or.inl rfl)) (pgs_cons (pg_name (i := 5) sc_Steps_holds.nd rfl (Or.inl rfl)) pgs_nil)))))
      (pss_one (ps_ret (pe_cmpR op_le (pe_op op_sub (pe_call G_value_of (hr.mono (by decide)) rfl T.g_value_of T.F_value_of.kp T.b_value_of .nil pass0 (pa_cons (pv 2) (pa_cons (pv 3) pa_nil))) (pe_call G_value_of (hr.mono (by decide)) rfl T.g_value_of T.F_value_of.kp T.b_value_of .nil pass0 (pa_cons (pv 2) (pa_cons (pv 4) pa_nil)))) (pv 5) (nomark _))))), ?_⟩
    refine fn_run0 h (fun as d hp => ?_) fun as d hp => ?_
    · obtain ⟨self, constraint, assignment, rfl, rfl⟩ := hp; simp
    · obtain ⟨self, constraint, assignment, rfl, rfl⟩ := hp
      refine ⟨_, (show f_Steps_holds self constraint assignment = Res.noerr _ from rfl), ?_⟩
      refine ws_seq ?_
      refine ws_ctx (Γ' := [.val ((yKind (A 11)) self), .val ((yTr K yStr yStr yInt) constraint), .val ((yDct (κ := Str) yInt) assignment), .any, .any, .any]) rfl ?_
      refine ws_asg ?_
      refine wx_var rfl ?_
      refine ⟨_, rfl, ?_⟩
      refine wg_tup 3 rfl ?_
      refine wgs_cons ?_
      refine wg_name (show 3 < 6 by decide) ?_
      refine wgs_cons ?_
      refine wg_name (show 4 < 6 by decide) ?_
      refine wgs_cons ?_
      refine wg_name (show 5 < 6 by decide) ?_
      refine wgs_nil ?_
      refine ws_ctx (Γ' := [.val ((yKind (A 11)) self), .val ((yTr K yStr yStr yInt) constraint), .val ((yDct (κ := Str) yInt) assignment), .val (yStr constraint.1), .val (yStr constraint.2.1), .val (yInt constraint.2.2)]) rfl ?_
      refine ws_ret ?_
      refine wx_op ?_
      refine wx_op ?_
      refine wx_call ?_
      refine wa_cons ?_
      refine wx_var rfl ?_
      refine ⟨_, rfl, ?_⟩
      refine wa_cons ?_
      refine wx_var rfl ?_
      refine ⟨_, rfl, ?_⟩
      refine wa_nil ?_
      refine rc_call _ _ _ ⟨assignment, constraint.1, rfl, rfl⟩ ⟨rfl, rfl, trivial⟩ (show List.Nodup ([] : List Nat) by decide) rfl (.inr fun _ z => by first | exact noerr_ne z | exact (nomatch z)) fun r1 _ => ?_
      refine ⟨_, rfl, ?_⟩
      refine wx_call ?_
      refine wa_cons ?_
      refine wx_var rfl ?_
      refine ⟨_, rfl, ?_⟩
      refine wa_cons ?_
      refine wx_var rfl ?_
      refine ⟨_, rfl, ?_⟩
      refine wa_nil ?_
      refine rc_call _ _ _ ⟨assignment, constraint.2.1, rfl, rfl⟩ ⟨rfl, rfl, trivial⟩ (show List.Nodup ([] : List Nat) by decide) rfl (.inr fun _ z => by first | exact noerr_ne z | exact (nomatch z)) fun r2 _ => ?_
      refine ⟨_, rfl, ?_⟩
      refine rx_ari rfl ?_
      refine ⟨_, rfl, ?_⟩
      refine wx_var rfl ?_
      refine ⟨_, rfl, ?_⟩
      refine rx_cmp rfl ?_
      exact ⟨_, rfl, rfl, (by first | trivial | exact ⟨rfl, trivial⟩ | exact ⟨rfl, rfl, trivial⟩)⟩
def pre_Steps_contradiction (K : PySem.W.Frag) (A : Nat → Addr) : List Ar → Cl → Prop := fun as d => ∃ (self : Unit), as = [.val ((yKind (A 11)) self)] ∧ d = ⟨((Str × Str × Int)), .ok (f_Steps_contradiction self), fun r => .val ((yTr K yStr yStr yInt) r), fun r => []⟩
theorem ok_Steps_contradiction (T : Txt P K mg A D) : FnOk P w K mg base CX0 1 (A 1224) (D 1224) ["self"] (spM A (pre_Steps_contradiction K A)) := by
  refine T.F_Steps_contradiction.ok sc_Steps_contradiction (fun vs H Q E h => ?_) (fun cdv A' outer s H vs Q E hr h => ?_)
  · exact spM_len h fun as d hp => by obtain ⟨self, rfl, rfl⟩ := hp; rfl
  · have hu := hu_of hr
    refine ⟨_, (pss_one (ps_ret (pe_tup (pa_cons pe_str (pa_cons pe_str (pa_cons (pe_un un_neg pe_int) pa_nil)))))), ?_⟩
    refine fn_run h (fun as d hp => ?_) fun as d hp => ?_
    · obtain ⟨self, rfl, rfl⟩ := hp; simp
    · obtain ⟨self, rfl, rfl⟩ := hp
      refine ⟨_, rfl, ?_⟩
      refine ws_ctx (Γ' := [.val ((yKind (A 11)) self)]) rfl ?_
      refine ws_ret ?_
      refine wx_tup (K := K) ?_
      refine wa_cons ?_
      refine wx_str ?_
      refine ⟨_, rfl, ?_⟩
      refine wa_cons ?_
      refine wx_str ?_
      refine ⟨_, rfl, ?_⟩
      refine wa_cons ?_
      refine wx_un ?_
      refine wx_int ?_
      refine ⟨_, rfl, ?_⟩
      refine ru_neg ?_
      refine ⟨_, rfl, ?_⟩
      refine wa_nil ?_
      refine ⟨[yStr ("" : Str), yStr ("" : Str), yInt (-(1 : Int))], rfl, show 3 ≤ 1000 by decide, ?_⟩
      exact ⟨_, rfl, rfl, (by first | trivial | exact ⟨rfl, trivial⟩ | exact ⟨rfl, rfl, trivial⟩)⟩
def pre_merge_names (K : PySem.W.Frag) (A : Nat → Addr) : List Ar → Cl → Prop := fun as d => ∃ (lists : (List (List Str))), as = [.val ((yTup K (ySeqq K yStr)) lists)] ∧ d = ⟨((List Str)), f_merge_names lists, fun r => .val ((yTup K yStr) r), fun r => []⟩
theorem ok_merge_names (T : Txt P K mg A D) : FnR P w K mg base CX0 1 (A 9) (star 0 (spM A (pre_merge_names K A))) := by
  obtain ⟨oc0, od0, kV0, doc0, pm0, an0, cdv, ct0, osl0, e0, lk, hcd⟩ := T.F_merge_names.ex
  rw [e0] at lk
  refine StX.fn_star (ps := []) (pv := "lists") (sp := (spM A (pre_merge_names K A))) lk hcd sc_merge_names StX.cxUp_none (fun us rest hl => ?_) (fun A' outer s H vs Q E hr h => ?_)
  · match us, hl with | [], _ => cases rest <;> rfl
  · have hu := hu_of hr
    refine nox_ex ?_
    refine ⟨_, (pss_cons (ps_set (i := 1) sc_merge_names.nd rfl (Or.inl rfl) pe_dnewK)
      (pss_cons (ps_for PassesOwn.never rfl (iK_tup (K := K) rfl (pv 0)) (pg_name (i := 2) sc_merge_names.nd rfl (Or.inl rfl))
        (pss_one (ps_for PassesOwn.never rfl (pi_or (iK_list (K := K) rfl (pv 2)) (iK_tup (K := K) rfl (pv 2))) (pg_name (i := 3) sc_merge_names.nd rfl (Or.inl rfl))
          (pss_one (ps_dput hu (pv 1) (pv 3) pe_bl rfl)))))
      (pss_one (ps_ret (pe_callTy (T := "tuple") (cK_tuple (K := K) rfl) (by rfl) T.z_tuple (by decide +kernel) (pa_cons (pe_callB (id := "sorted") (cK_sortedS (K := K) rfl) (by rfl) T.z_sorted (by decide +kernel) (pa_cons (pe_callTy (T := "list") (call_listD rfl) (by rfl) T.z_list (by decide +kernel) (pa_cons (pv 1) pa_nil)) pa_nil)) pa_nil)))))), ?_⟩
    refine fn_run0 h (fun as d hp => ?_) fun as d hp => ?_
    · obtain ⟨lists, rfl, rfl⟩ := hp; simp
    · obtain ⟨lists, rfl, rfl⟩ := hp
      refine ⟨_, (show f_merge_names lists = Res.noerr _ from rfl), ?_⟩
      refine ws_seq ?_
      refine ws_ctx (Γ' := [.val ((yTup K (ySeqq K yStr)) lists), .any, .any, .any]) rfl ?_
      refine ws_setO (wDct (κ := Str) yBl) ?_
      refine wx_dnew ?_
      refine ⟨([] : (List (Str × Bool))), _, rfl, show 1 < 4 by decide, rfl, fun found => ?_⟩
      refine ws_seq ?_
      refine ws_ctx (Γ' := [.val ((yTup K (ySeqq K yStr)) lists), .own false ((wDct (κ := Str) yBl) found), .any, .any]) rfl ?_
      refine ws_for (μ := ((List (Str × Bool)))) (ySeqq K yStr) ?_
      refine wi_tup ?_
      refine wx_var rfl ?_
      refine ⟨_, rfl, ?_⟩
      refine ⟨_, (fun s1 : ((List (Str × Bool))) => [.val ((yTup K (ySeqq K yStr)) lists), .own false ((wDct (κ := Str) yBl) s1), .any, .any]), lists, _, _, rfl, rfl, by walk_at "subc", fun s1 q1 => ?_, fun s1 => ?_⟩
      · refine wg_name (show 2 < 4 by decide) ?_
        refine ws_ctx (Γ' := [.val ((yTup K (ySeqq K yStr)) lists), .own false ((wDct (κ := Str) yBl) s1), .val ((ySeqq K yStr) q1), .any]) rfl ?_
        refine ws_for (μ := ((List (Str × Bool)))) yStr ?_
        refine wi_seq rfl ?_
        refine ⟨_, (fun s2 : ((List (Str × Bool))) => [.val ((yTup K (ySeqq K yStr)) lists), .own false ((wDct (κ := Str) yBl) s2), .val ((ySeqq K yStr) q1), .any]), q1, _, _, rfl, rfl, by walk_at "subc", fun s2 q2 => ?_, fun s2 => ?_⟩
        · refine wg_name (show 3 < 4 by decide) ?_
          refine ws_ctx (Γ' := [.val ((yTup K (ySeqq K yStr)) lists), .own false ((wDct (κ := Str) yBl) s2), .val ((ySeqq K yStr) q1), .val (yStr q2)]) rfl ?_
          refine ws_dput (t := yBl) (tk := yStr) ?_
          refine wx_bl ?_
          refine ⟨true, rfl, ⟨_, _, rfl⟩, ?_⟩
          refine wx_var rfl ?_
          refine ⟨_, q2, _, s2, rfl, rfl, rfl, fun d1 => ?_⟩
          exact ⟨_, rfl, by walk_at "subc"⟩
        exact ⟨_, rfl, by walk_at "subc"⟩
      refine ws_ctx (Γ' := [.val ((yTup K (ySeqq K yStr)) lists), .own false ((wDct (κ := Str) yBl) s1), .any, .any]) rfl ?_
      refine ws_frz 1 rfl ?_
      refine ws_ret ?_
      refine wx_cb ?_
      refine wa_cons ?_
      refine wx_fz ?_
      refine wx_cb ?_
      refine wa_cons ?_
      refine wx_fz ?_
      refine wx_cb ?_
      refine wa_cons ?_
      refine wx_var rfl ?_
      refine ⟨_, rfl, ?_⟩
      refine wa_nil ?_
      refine rc_listD (K := K) (tk := yStr) (ks := dkeys s1) kpl_keys (by intros; rfl) ?_
      refine ⟨_, rfl, ?_⟩
      refine ⟨_, rfl, ?_⟩
      refine wa_nil ?_
      refine rc_sortS rfl ?_
      refine ⟨_, rfl, ?_⟩
      refine ⟨_, rfl, ?_⟩
      refine wa_nil ?_
      refine rc_tuple (pLst K) ?_
      exact ⟨_, rfl, rfl, (by first | trivial | exact ⟨rfl, trivial⟩ | exact ⟨rfl, rfl, trivial⟩)⟩
def pre_Steps_rename (K : PySem.W.Frag) (A : Nat → Addr) : List Ar → Cl → Prop := fun as d => ∃ (self : Unit) (theory : ((List Str) × (List (Str × Str × Int)))) (table : (List (Str × Str))), as = [.val ((yKind (A 11)) self), .val ((yPr K (yTup K yStr) (yTup K (yTr K yStr yStr yInt))) theory), .val ((yDct (κ := Str) yStr) table)] ∧ d = ⟨(((List Str) × (List (Str × Str × Int)))), f_Steps_rename self theory table, fun r => .val ((yPr K (yTup K yStr) (yTup K (yTr K yStr yStr yInt))) r), fun r => []⟩
theorem ok_Steps_rename (T : Txt P K mg A D) : FnOk P w K mg base CX0 2 (A 1225) (D 1225) ["self", "theory", "table"] (spM A (pre_Steps_rename K A)) := by
  refine T.F_Steps_rename.ok sc_Steps_rename (fun vs H Q E h => ?_) (fun cdv A' outer s H vs Q E hr h => ?_)
  · exact spM_len h fun as d hp => by obtain ⟨self, theory, table, rfl, rfl⟩ := hp; rfl
  · have hu := hu_of hr
    have G_merge_names : FnR P w K mg base CX0 1 (A 9) (star 0 (spM A (pre_merge_names K A))) := ok_merge_names T
    refine ⟨_, (pss_cons (ps_set (i := 3) sc_Steps_rename.nd rfl (Or.inl rfl) (pe_callF G_merge_names (hr.mono (by decide)) T.F_merge_names.kp rfl T.g_merge_names pass0 (pa_cons (pe_lc (own := [("name", 4)]) (g := gName 4) (tt := tYes) rfl sc_Steps_rename.nd (iK_tup (K := K) rfl (pe_ix (xK_tup (K := K) rfl) (pv 1) pe_int (fun _ _ => rfl))) (blkOk_by (N := N_Steps_rename) (sc := defScope (topM 11 5)) (by decide +kernel)) (fun _ _ _ _ _ => (pg_name (i := 4) sc_Steps_rename.nd rfl (Or.inl rfl))) (fun _ _ _ _ _ => pts_nil) (fun _ _ _ _ _ => (pe_dget2 hu (pv 2) (pv 4) (pv 4) ⟨rfl, rfl, rfl, rfl⟩))) pa_nil)))
      (pss_one (ps_ret (pe_tup (pa_cons (pv 3) (pa_cons (pe_callTy (T := "tuple") (cK_tuple (K := K) rfl) (by rfl) T.z_tuple (by decide +kernel) (pa_cons (pe_lc (own := [("x", 5), ("y", 6), ("bound", 7)])  (tt := tYes) rfl sc_Steps_rename.nd (iK_tup (K := K) rfl (pe_ix (xK_tup (K := K) rfl) (pv 1) pe_int (fun _ _ => rfl))) (blkOk_by (N := N_Steps_rename) (sc := defScope (topM 11 5)) (by decide +kernel)) (fun _ _ _ _ _ => (gK_tup (K := K) 3 rfl rfl (pgs_cons (pg_name (i := 5) sc_Steps_rename.nd rfl (Or.inl rfl)) (pgs_cons (pg_name (i := 6) sc_Steps_rename.nd rfl (Or.inl rfl)) (pgs_cons (pg_name (i := 7) sc_Steps_rename.nd rfl (Or.inl rfl)) pgs_nil))))) (fun _ _ _ _ _ => pts_nil) (fun _ _ _ _ _ => (pe_tup (pa_cons (pe_dget2 hu (pv 2) (pv 5) (pv 5) ⟨rfl, rfl, rfl, rfl⟩) (pa_cons (pe_dget2 hu (pv 2) (pv 6) (pv 6) ⟨rfl, rfl, rfl, rfl⟩) (pa_cons (pv 7) pa_nil)))))) pa_nil)) pa_nil)))))), ?_⟩
    refine fn_run0 h (fun as d hp => ?_) fun as d hp => ?_
    · obtain ⟨self, theory, table, rfl, rfl⟩ := hp; simp
    · obtain ⟨self, theory, table, rfl, rfl⟩ := hp
      refine ⟨_, (show f_Steps_rename self theory table = Res.noerr _ from rfl), ?_⟩
      refine ws_seq ?_
      refine ws_ctx (Γ' := [.val ((yKind (A 11)) self), .val ((yPr K (yTup K yStr) (yTup K (yTr K yStr yStr yInt))) theory), .val ((yDct (κ := Str) yStr) table), .any, .any, .any, .any, .any]) rfl ?_
      refine ws_setL (yTup K yStr) ?_
      refine wx_callF ?_
      refine wa_cons ?_
      refine wx_toSeqL (K := K) ?_
      refine wx_fz ?_
      refine wx_lcA (K := K) yStr yStr (fun q1 => (dgetD table q1 q1)) (gk_name (by decide)) ?_
      refine wi_tup ?_
      refine wx_op ?_
      refine wx_var rfl ?_
      refine ⟨_, rfl, ?_⟩
      refine wx_int ?_
      refine ⟨_, rfl, ?_⟩
      refine rx_ixT rfl ?_
      refine ⟨_, rfl, ?_⟩
      refine ⟨theory.1, rfl, fun q1 => ?_, ?_⟩
      · refine wg_ctx (Γ' := [.val ((yKind (A 11)) self), .val ((yPr K (yTup K yStr) (yTup K (yTr K yStr yStr yInt))) theory), .val ((yDct (κ := Str) yStr) table), .any, .any, .any, .any, .any]) rfl ?_
        refine wg_name (show 4 < 8 by decide) ?_
        refine wx_dget2 (t := yStr) (tk := yStr) ?_
        refine wx_var rfl ?_
        refine ⟨table, rfl, ?_⟩
        refine wx_var rfl ?_
        refine ⟨_, rfl, ?_⟩
        refine wx_var rfl ?_
        refine ⟨_, rfl, ?_⟩
        exact rfl
      refine ⟨_, rfl, ?_⟩
      refine ⟨_, rfl, ?_⟩
      refine ⟨_, rfl, ?_⟩
      refine wa_nil ?_
      refine rc_star (K := K) (ps := [(ySeqq K yStr) (theory.1.map fun q1 => (dgetD table q1 q1))]) [] (show 1 ≤ 1000 by decide) ?_
      refine rc_call _ _ _ ⟨([(theory.1.map fun q1 => (dgetD table q1 q1))] : List (List Str)), rfl, rfl⟩ ⟨rfl, trivial⟩ (show List.Nodup ([] : List Nat) by decide) rfl (.inr fun _ z => noerr_ne z) fun r1 _ => ?_
      refine ⟨r1, _, rfl, show 3 < 8 by decide, rfl, fun names => ?_⟩
      refine ws_ctx (Γ' := [.val ((yKind (A 11)) self), .val ((yPr K (yTup K yStr) (yTup K (yTr K yStr yStr yInt))) theory), .val ((yDct (κ := Str) yStr) table), .val ((yTup K yStr) names), .any, .any, .any, .any]) rfl ?_
      refine ws_ret ?_
      refine wx_tup (K := K) ?_
      refine wa_cons ?_
      refine wx_var rfl ?_
      refine ⟨_, rfl, ?_⟩
      refine wa_cons ?_
      refine wx_cb ?_
      refine wa_cons ?_
      refine wx_fz ?_
      refine wx_lcA (K := K) (yTr K yStr yStr yInt) (yTr K yStr yStr yInt) (fun q2 => ((dgetD table q2.1 q2.1), (dgetD table q2.2.1 q2.2.1), q2.2.2)) (gk_tup (gks_cons (gk_name (by decide)) (gks_cons (gk_name (by decide)) (gks_cons (gk_name (by decide)) gks_nil)))) ?_
      refine wi_tup ?_
      refine wx_op ?_
      refine wx_var rfl ?_
      refine ⟨_, rfl, ?_⟩
      refine wx_int ?_
      refine ⟨_, rfl, ?_⟩
      refine rx_ixT rfl ?_
      refine ⟨_, rfl, ?_⟩
      refine ⟨theory.2, rfl, fun q2 => ?_, ?_⟩
      · refine wg_ctx (Γ' := [.val ((yKind (A 11)) self), .val ((yPr K (yTup K yStr) (yTup K (yTr K yStr yStr yInt))) theory), .val ((yDct (κ := Str) yStr) table), .val ((yTup K yStr) names), .any, .any, .any, .any]) rfl ?_
        refine wg_tup 3 rfl ?_
        refine wgs_cons ?_
        refine wg_name (show 5 < 8 by decide) ?_
        refine wgs_cons ?_
        refine wg_name (show 6 < 8 by decide) ?_
        refine wgs_cons ?_
        refine wg_name (show 7 < 8 by decide) ?_
        refine wgs_nil ?_
        refine wx_tup (K := K) ?_
        refine wa_cons ?_
        refine wx_dget2 (t := yStr) (tk := yStr) ?_
        refine wx_var rfl ?_
        refine ⟨table, rfl, ?_⟩
        refine wx_var rfl ?_
        refine ⟨_, rfl, ?_⟩
        refine wx_var rfl ?_
        refine ⟨_, rfl, ?_⟩
        refine ⟨_, rfl, ?_⟩
        refine wa_cons ?_
        refine wx_dget2 (t := yStr) (tk := yStr) ?_
        refine wx_var rfl ?_
        refine ⟨table, rfl, ?_⟩
        refine wx_var rfl ?_
        refine ⟨_, rfl, ?_⟩
        refine wx_var rfl ?_
        refine ⟨_, rfl, ?_⟩
        refine ⟨_, rfl, ?_⟩
        refine wa_cons ?_
        refine wx_var rfl ?_
        refine ⟨_, rfl, ?_⟩
        refine wa_nil ?_
        refine ⟨[yStr (dgetD table q2.1 q2.1), yStr (dgetD table q2.2.1 q2.2.1), yInt q2.2.2], rfl, show 3 ≤ 1000 by decide, ?_⟩
        exact rfl
      refine ⟨_, rfl, ?_⟩
      refine ⟨_, rfl, ?_⟩
      refine wa_nil ?_
      refine rc_tuple (pLst K) ?_
      refine ⟨_, rfl, ?_⟩
      refine wa_nil ?_
      refine ⟨[(yTup K yStr) names, (yTup K (yTr K yStr yStr yInt)) (theory.2.map fun q2 => ((dgetD table q2.1 q2.1), (dgetD table q2.2.1 q2.2.1), q2.2.2))], rfl, show 2 ≤ 1000 by decide, ?_⟩
      exact ⟨_, rfl, rfl, (by first | trivial | exact ⟨rfl, trivial⟩ | exact ⟨rfl, rfl, trivial⟩)⟩
def pre_Steps_lift (K : PySem.W.Frag) (A : Nat → Addr) : List Ar → Cl → Prop := fun as d => ∃ (self : Unit) (theory : ((List Str) × (List (Str × Str × Int)))) (name : Str) (assignment : (List (Str × Int))), as = [.val ((yKind (A 11)) self), .val ((yPr K (yTup K yStr) (yTup K (yTr K yStr yStr yInt))) theory), .val (yStr name), .val ((yDct (κ := Str) yInt) assignment)] ∧ d = ⟨(Int), f_Steps_lift self theory name assignment, fun r => .val (yInt r), fun r => []⟩
theorem ok_Steps_lift (T : Txt P K mg A D) : FnOk P w K mg base (L2.CX P w) 3 (A 1227) (D 1227) ["self", "theory", "name", "assignment"] (spM A (pre_Steps_lift K A)) := by
  refine T.F_Steps_lift.okX sc_Steps_lift (fun vs H Q E h => ?_) (fun cdv A' outer s H vs Q E hr h => ?_)
  · exact spM_len h fun as d hp => by obtain ⟨self, theory, name, assignment, rfl, rfl⟩ := hp; rfl
  · have hu := hu_of hr
    have G_value_of : FnOk P w K mg base CX0 1 (A 5) (D 5) ["assignment", "name"] (spM A (pre_value_of K A)) := ok_value_of T
    have G_Steps_holds : FnOk P w K mg base CX0 2 (A 1223) (D 1223) ["self", "constraint", "assignment"] (spM A (pre_Steps_holds K A)) := ok_Steps_holds T
    refine ⟨_, (pss_cons (ps_set (i := 4) sc_Steps_lift.nd rfl (Or.inl rfl) (pe_lst pa_nil))
      (pss_cons (ps_set (i := 5) sc_Steps_lift.nd rfl (Or.inl rfl) (pe_lst pa_nil))
      (pss_cons (ps_for (passes_of rfl) rfl (iK_tup (K := K) rfl (pe_ix (xK_tup (K := K) rfl) (pv 1) pe_int (fun _ _ => rfl))) (gK_tup (K := K) 3 rfl rfl (pgs_cons (pg_name (i := 6) sc_Steps_lift.nd rfl (Or.inl rfl)) (pgs_cons (pg_name (i := 7) sc_Steps_lift.nd rfl (Or.inl rfl)) (pgs_cons (pg_name (i := 8) sc_Steps_lift.nd rfl (Or.inl rfl)) pgs_nil))))
        (pss_one (ps_if (pt_cmpR op_eq (pv 7) (pv 2) (nomark _))
          (pss_one (ps_expr (pe_bm PySem.F.plainAttrs_list PySem.F.slot_list_append PySem.F.type_list_append mt_append (pv 4) (pa_cons (pe_op op_sub (pe_call G_value_of (hr.mono (by decide)) rfl T.g_value_of T.F_value_of.kp T.b_value_of .nil pass0 (pa_cons (pv 3) (pa_cons (pv 6) pa_nil))) (pv 8)) pa_nil))))
          (pss_one (ps_if (pt_cmpR op_eq (pv 6) (pv 2) (nomark _))
            (pss_one (ps_expr (pe_bm PySem.F.plainAttrs_list PySem.F.slot_list_append PySem.F.type_list_append mt_append (pv 5) (pa_cons (pe_op op_add (pe_call G_value_of (hr.mono (by decide)) rfl T.g_value_of T.F_value_of.kp T.b_value_of .nil pass0 (pa_cons (pv 3) (pa_cons (pv 7) pa_nil))) (pv 8)) pa_nil))))
            (pss_one (ps_if (pt_not (pt_val (methO_of (pe_meth (pv 0) T.cl_Steps T.M_Steps_holds G_Steps_holds (hr.mono (by decide)) T.b_Steps_holds .nil pass0 (pa_cons (pe_tup (pa_cons (pv 6) (pa_cons (pv 7) (pa_cons (pv 8) pa_nil)))) (pa_cons (pv 3) pa_nil))))))
              (pss_one (ps_raise rfl (takes_of rfl rfl rfl rfl) (pmk_err0 T.E0_NoSolution rfl)))
              pss_nil)))))))
      (pss_cons (ps_if (pt_cmpR op_eq (pe_callB (id := "len") (cK_len (K := K) rfl) (by rfl) T.z_len (by decide +kernel) (pa_cons (pv 4) pa_nil)) pe_int (nomark _))
        (pss_one (ps_ret (pe_callBK (cr_mind (K := K) rfl rfl) (by rfl) T.z_min (by decide +kernel) (pa_cons (pv 5) pa_nil) (pk_cons pe_int pk_nil))))
        pss_nil)
      (pss_cons (ps_if (PW.pt (pw_and (pt_cmpR op_gt (pe_callB (id := "len") (cK_len (K := K) rfl) (by rfl) T.z_len (by decide +kernel) (pa_cons (pv 5) pa_nil)) pe_int (nomark _)) (pw_and1 (pt_cmpR op_gt (pe_callB (id := "max") (cK_max (K := K) rfl rfl) (by rfl) T.z_max (by decide +kernel) (pa_cons (pv 4) pa_nil)) (pe_callB (id := "min") (cK_min (K := K) rfl rfl) (by rfl) T.z_min (by decide +kernel) (pa_cons (pv 5) pa_nil)) (nomark _)))))
        (pss_one (ps_raise rfl (takes_of rfl rfl rfl rfl) (pmk_err0 T.E0_NoSolution rfl)))
        pss_nil)
      (pss_one (ps_ret (pe_callB (id := "max") (cK_max (K := K) rfl rfl) (by rfl) T.z_max (by decide +kernel) (pa_cons (pv 4) pa_nil))))))))), ?_⟩
    refine fn_run h (fun as d hp => ?_) fun as d hp => ?_
    · obtain ⟨self, theory, name, assignment, rfl, rfl⟩ := hp; simp
    · obtain ⟨self, theory, name, assignment, rfl, rfl⟩ := hp
      refine ⟨_, f_Steps_lift.eq_def _ _ _ _, ?_⟩
      refine ws_seq ?_
      refine ws_ctx (Γ' := [.val ((yKind (A 11)) self), .val ((yPr K (yTup K yStr) (yTup K (yTr K yStr yStr yInt))) theory), .val (yStr name), .val ((yDct (κ := Str) yInt) assignment), .any, .any, .any, .any, .any]) rfl ?_
      refine ws_setO (wLst K yInt) ?_
      refine wx_lst (K := K) ?_
      refine wa_nil ?_
      refine ⟨[], rfl, show 0 ≤ 1000 by decide, ?_⟩
      refine ⟨([] : List Int), _, rfl, show 4 < 9 by decide, rfl, fun lows => ?_⟩
      refine ws_seq ?_
      refine ws_ctx (Γ' := [.val ((yKind (A 11)) self), .val ((yPr K (yTup K yStr) (yTup K (yTr K yStr yStr yInt))) theory), .val (yStr name), .val ((yDct (κ := Str) yInt) assignment), .own false ((wLst K yInt) lows), .any, .any, .any, .any]) rfl ?_
      refine ws_setO (wLst K yInt) ?_
      refine wx_lst (K := K) ?_
      refine wa_nil ?_
      refine ⟨[], rfl, show 0 ≤ 1000 by decide, ?_⟩
      refine ⟨([] : List Int), _, rfl, show 5 < 9 by decide, rfl, fun highs => ?_⟩
      refine ws_seq ?_
      refine ws_ctx (Γ' := [.val ((yKind (A 11)) self), .val ((yPr K (yTup K yStr) (yTup K (yTr K yStr yStr yInt))) theory), .val (yStr name), .val ((yDct (κ := Str) yInt) assignment), .own false ((wLst K yInt) lows), .own false ((wLst K yInt) highs), .any, .any, .any]) rfl ?_
      refine ws_for (μ := ((List Int) × (List Int))) (yTr K yStr yStr yInt) ?_
      refine wi_tup ?_
      refine wx_op ?_
      refine wx_var rfl ?_
      refine ⟨_, rfl, ?_⟩
      refine wx_int ?_
      refine ⟨_, rfl, ?_⟩
      refine rx_ixT rfl ?_
      refine ⟨_, rfl, ?_⟩
      refine ⟨_, (fun s1 : ((List Int) × (List Int)) => [.val ((yKind (A 11)) self), .val ((yPr K (yTup K yStr) (yTup K (yTr K yStr yStr yInt))) theory), .val (yStr name), .val ((yDct (κ := Str) yInt) assignment), .own false ((wLst K yInt) s1.1), .own false ((wLst K yInt) s1.2), .any, .any, .any]), theory.2, _, _, rfl, rfl, by walk_at "subc", fun s1 q1 => ?_, fun s1 => ?_⟩
      · refine wg_tup 3 rfl ?_
        refine wgs_cons ?_
        refine wg_name (show 6 < 9 by decide) ?_
        refine wgs_cons ?_
        refine wg_name (show 7 < 9 by decide) ?_
        refine wgs_cons ?_
        refine wg_name (show 8 < 9 by decide) ?_
        refine wgs_nil ?_
        refine ws_ctx (Γ' := [.val ((yKind (A 11)) self), .val ((yPr K (yTup K yStr) (yTup K (yTr K yStr yStr yInt))) theory), .val (yStr name), .val ((yDct (κ := Str) yInt) assignment), .own false ((wLst K yInt) s1.1), .own false ((wLst K yInt) s1.2), .val (yStr q1.1), .val (yStr q1.2.1), .val (yInt q1.2.2)]) rfl ?_
        refine ws_if ?_
        refine wt_b ?_
        refine wx_op ?_
        refine wx_var rfl ?_
        refine ⟨_, rfl, ?_⟩
        refine wx_var rfl ?_
        refine ⟨_, rfl, ?_⟩
        refine rx_eq ?_
        refine ⟨_, rfl, ?_⟩
        refine ⟨_, _, rfl, ?_, ?_⟩
        · refine ws_ctx (Γ' := [.val ((yKind (A 11)) self), .val ((yPr K (yTup K yStr) (yTup K (yTr K yStr yStr yInt))) theory), .val (yStr name), .val ((yDct (κ := Str) yInt) assignment), .own false ((wLst K yInt) s1.1), .own false ((wLst K yInt) s1.2), .val (yStr q1.1), .val (yStr q1.2.1), .val (yInt q1.2.2)]) rfl ?_
          refine ws_append yInt (xs0 := s1.1) rfl ?_
          refine wx_op ?_
          refine wx_call ?_
          refine wa_cons ?_
          refine wx_var rfl ?_
          refine ⟨_, rfl, ?_⟩
          refine wa_cons ?_
          refine wx_var rfl ?_
          refine ⟨_, rfl, ?_⟩
          refine wa_nil ?_
          refine rc_call _ _ _ ⟨assignment, q1.1, rfl, rfl⟩ ⟨rfl, rfl, trivial⟩ (show List.Nodup ([] : List Nat) by decide) rfl (.inr fun _ z => by first | exact noerr_ne z | exact (nomatch z)) fun r1 _ => ?_
          refine ⟨_, rfl, ?_⟩
          refine wx_var rfl ?_
          refine ⟨_, rfl, ?_⟩
          refine rx_ari rfl ?_
          refine ⟨_, s1.1, (r1 - q1.2.2), _, rfl, rfl, rfl, fun z1 => ?_⟩
          exact ⟨_, rfl, by walk_at "subc"⟩
        · refine ws_ctx (Γ' := [.val ((yKind (A 11)) self), .val ((yPr K (yTup K yStr) (yTup K (yTr K yStr yStr yInt))) theory), .val (yStr name), .val ((yDct (κ := Str) yInt) assignment), .own false ((wLst K yInt) s1.1), .own false ((wLst K yInt) s1.2), .val (yStr q1.1), .val (yStr q1.2.1), .val (yInt q1.2.2)]) rfl ?_
          refine ws_if ?_
          refine wt_b ?_
          refine wx_op ?_
          refine wx_var rfl ?_
          refine ⟨_, rfl, ?_⟩
          refine wx_var rfl ?_
          refine ⟨_, rfl, ?_⟩
          refine rx_eq ?_
          refine ⟨_, rfl, ?_⟩
          refine ⟨_, _, rfl, ?_, ?_⟩
          · refine ws_ctx (Γ' := [.val ((yKind (A 11)) self), .val ((yPr K (yTup K yStr) (yTup K (yTr K yStr yStr yInt))) theory), .val (yStr name), .val ((yDct (κ := Str) yInt) assignment), .own false ((wLst K yInt) s1.1), .own false ((wLst K yInt) s1.2), .val (yStr q1.1), .val (yStr q1.2.1), .val (yInt q1.2.2)]) rfl ?_
            refine ws_append yInt (xs0 := s1.2) rfl ?_
            refine wx_op ?_
            refine wx_call ?_
            refine wa_cons ?_
            refine wx_var rfl ?_
            refine ⟨_, rfl, ?_⟩
            refine wa_cons ?_
            refine wx_var rfl ?_
            refine ⟨_, rfl, ?_⟩
            refine wa_nil ?_
            refine rc_call _ _ _ ⟨assignment, q1.2.1, rfl, rfl⟩ ⟨rfl, rfl, trivial⟩ (show List.Nodup ([] : List Nat) by decide) rfl (.inr fun _ z => by first | exact noerr_ne z | exact (nomatch z)) fun r2 _ => ?_
            refine ⟨_, rfl, ?_⟩
            refine wx_var rfl ?_
            refine ⟨_, rfl, ?_⟩
            refine rx_ari rfl ?_
            refine ⟨_, s1.2, (r2 + q1.2.2), _, rfl, rfl, rfl, fun z2 => ?_⟩
            exact ⟨_, rfl, by walk_at "subc"⟩
          · refine ws_ctx (Γ' := [.val ((yKind (A 11)) self), .val ((yPr K (yTup K yStr) (yTup K (yTr K yStr yStr yInt))) theory), .val (yStr name), .val ((yDct (κ := Str) yInt) assignment), .own false ((wLst K yInt) s1.1), .own false ((wLst K yInt) s1.2), .val (yStr q1.1), .val (yStr q1.2.1), .val (yInt q1.2.2)]) rfl ?_
            refine ws_if ?_
            refine wt_not ?_
            refine wt_b ?_
            refine wx_meth ?_
            refine wx_var rfl ?_
            refine ⟨_, rfl, rfl, ?_⟩
            refine wa_cons ?_
            refine wx_tup (K := K) ?_
            refine wa_cons ?_
            refine wx_var rfl ?_
            refine ⟨_, rfl, ?_⟩
            refine wa_cons ?_
            refine wx_var rfl ?_
            refine ⟨_, rfl, ?_⟩
            refine wa_cons ?_
            refine wx_var rfl ?_
            refine ⟨_, rfl, ?_⟩
            refine wa_nil ?_
            refine ⟨[yStr q1.1, yStr q1.2.1, yInt q1.2.2], rfl, show 3 ≤ 1000 by decide, ?_⟩
            refine ⟨_, rfl, ?_⟩
            refine wa_cons ?_
            refine wx_var rfl ?_
            refine ⟨_, rfl, ?_⟩
            refine wa_nil ?_
            refine rc_call _ _ _ ⟨self, (q1.1, q1.2.1, q1.2.2), assignment, rfl, rfl⟩ ⟨rfl, rfl, rfl, trivial⟩ (show List.Nodup ([] : List Nat) by decide) rfl (.inr fun _ z => by first | exact noerr_ne z | exact (nomatch z)) fun r3 _ => ?_
            refine ⟨_, rfl, ?_⟩
            refine ⟨_, _, rfl, ?_, ?_⟩
            · refine ws_ctx (Γ' := [.val ((yKind (A 11)) self), .val ((yPr K (yTup K yStr) (yTup K (yTr K yStr yStr yInt))) theory), .val (yStr name), .val ((yDct (κ := Str) yInt) assignment), .own false ((wLst K yInt) s1.1), .own false ((wLst K yInt) s1.2), .val (yStr q1.1), .val (yStr q1.2.1), .val (yInt q1.2.2)]) rfl ?_
              exact ws_raise0 (n := 3) (fun _ _ _ h => h) rfl
            · refine ws_next ?_
              exact ⟨_, rfl, by walk_at "subc"⟩
      refine ws_seq ?_
      refine ws_ctx (Γ' := [.val ((yKind (A 11)) self), .val ((yPr K (yTup K yStr) (yTup K (yTr K yStr yStr yInt))) theory), .val (yStr name), .val ((yDct (κ := Str) yInt) assignment), .own false ((wLst K yInt) s1.1), .own false ((wLst K yInt) s1.2), .any, .any, .any]) rfl ?_
      refine ws_frz 4 rfl ?_
      refine ws_frz 5 rfl ?_
      refine ws_if ?_
      refine wt_b ?_
      refine wx_op ?_
      refine wx_cb ?_
      refine wa_cons ?_
      refine wx_var rfl ?_
      refine ⟨_, rfl, ?_⟩
      refine wa_nil ?_
      refine rc_lenSq (pLst K) ?_
      rw [List.length_map]
      refine ⟨_, rfl, ?_⟩
      refine wx_int ?_
      refine ⟨_, rfl, ?_⟩
      refine rx_eq ?_
      refine ⟨_, rfl, ?_⟩
      refine ⟨_, _, rfl, ?_, ?_⟩
      · refine ws_ctx (Γ' := [.val ((yKind (A 11)) self), .val ((yPr K (yTup K yStr) (yTup K (yTr K yStr yStr yInt))) theory), .val (yStr name), .val ((yDct (κ := Str) yInt) assignment), .val ((yLst K yInt) s1.1), .val ((yLst K yInt) s1.2), .any, .any, .any]) rfl ?_
        refine ws_ret ?_
        refine rc_minD (K := K) (xs := s1.2) (d := (0 : Int)) ?_
        refine wa_cons ?_
        refine wx_var rfl ?_
        refine ⟨_, rfl, ?_⟩
        refine wa_nil ?_
        refine ⟨rfl, ?_⟩
        refine wa_cons ?_
        refine wx_int ?_
        refine ⟨_, rfl, ?_⟩
        refine wa_nil ?_
        refine ⟨rfl, ?_⟩
        exact ⟨_, rfl, rfl, (by first | trivial | exact ⟨rfl, trivial⟩ | exact ⟨rfl, rfl, trivial⟩)⟩
      · refine ws_next ?_
        refine ws_seq ?_
        refine ws_ctx (Γ' := [.val ((yKind (A 11)) self), .val ((yPr K (yTup K yStr) (yTup K (yTr K yStr yStr yInt))) theory), .val (yStr name), .val ((yDct (κ := Str) yInt) assignment), .val ((yLst K yInt) s1.1), .val ((yLst K yInt) s1.2), .any, .any, .any]) rfl ?_
        refine ws_if ?_
        refine wt_andM (μ := Unit) ?_
        refine wt_b ?_
        refine wx_op ?_
        refine wx_cb ?_
        refine wa_cons ?_
        refine wx_var rfl ?_
        refine ⟨_, rfl, ?_⟩
        refine wa_nil ?_
        refine rc_lenSq (pLst K) ?_
        rw [List.length_map]
        refine ⟨_, rfl, ?_⟩
        refine wx_int ?_
        refine ⟨_, rfl, ?_⟩
        refine rx_cmp rfl ?_
        refine ⟨_, rfl, ?_⟩
        refine ⟨(fun s2 : Unit => [.val ((yKind (A 11)) self), .val ((yPr K (yTup K yStr) (yTup K (yTr K yStr yStr yInt))) theory), .val (yStr name), .val ((yDct (κ := Str) yInt) assignment), .val ((yLst K yInt) s1.1), .val ((yLst K yInt) s1.2), .any, .any, .any]), _, (), _, rfl, by walk_at "subc", fun _ => ?_, fun r6 => ?_⟩
        · refine wt_b ?_
          refine wx_op ?_
          refine wx_cb ?_
          refine wa_cons ?_
          refine wx_var rfl ?_
          refine ⟨_, rfl, ?_⟩
          refine wa_nil ?_
          refine rc_max rfl fun r4 => ?_
          refine ⟨_, rfl, ?_⟩
          refine wx_cb ?_
          refine wa_cons ?_
          refine wx_var rfl ?_
          refine ⟨_, rfl, ?_⟩
          refine wa_nil ?_
          refine rc_min rfl fun r5 => ?_
          refine ⟨_, rfl, ?_⟩
          refine rx_cmp rfl ?_
          refine ⟨_, rfl, ?_⟩
          exact ⟨_, rfl, by walk_at "subc"⟩
        refine ⟨_, _, rfl, ?_, ?_⟩
        · refine ws_ctx (Γ' := [.val ((yKind (A 11)) self), .val ((yPr K (yTup K yStr) (yTup K (yTr K yStr yStr yInt))) theory), .val (yStr name), .val ((yDct (κ := Str) yInt) assignment), .val ((yLst K yInt) s1.1), .val ((yLst K yInt) s1.2), .any, .any, .any]) rfl ?_
          exact ws_raise0 (n := 3) (fun _ _ _ h => h) rfl
        · refine ws_next ?_
          refine ws_ctx (Γ' := [.val ((yKind (A 11)) self), .val ((yPr K (yTup K yStr) (yTup K (yTr K yStr yStr yInt))) theory), .val (yStr name), .val ((yDct (κ := Str) yInt) assignment), .val ((yLst K yInt) s1.1), .val ((yLst K yInt) s1.2), .any, .any, .any]) rfl ?_
          refine ws_ret ?_
          refine wx_cb ?_
          refine wa_cons ?_
          refine wx_var rfl ?_
          refine ⟨_, rfl, ?_⟩
          refine wa_nil ?_
          refine rc_max rfl fun r7 => ?_
          exact ⟨_, rfl, rfl, (by first | trivial | exact ⟨rfl, trivial⟩ | exact ⟨rfl, rfl, trivial⟩)⟩
def pre_Steps_ground (K : PySem.W.Frag) (A : Nat → Addr) : List Ar → Cl → Prop := fun as d => ∃ (self : Unit) (theory : ((List Str) × (List (Str × Str × Int)))), as = [.val ((yKind (A 11)) self), .val ((yPr K (yTup K yStr) (yTup K (yTr K yStr yStr yInt))) theory)] ∧ d = ⟨((Option (List (Str × Int)))), f_Steps_ground self theory, fun r => .val ((yOpt (yDct (κ := Str) yInt)) r), fun r => []⟩
theorem ok_Steps_ground (T : Txt P K mg A D) : FnOk P w K mg base CX0 3 (A 1228) (D 1228) ["self", "theory"] (spM A (pre_Steps_ground K A)) := by
  refine T.F_Steps_ground.ok sc_Steps_ground (fun vs H Q E h => ?_) (fun cdv A' outer s H vs Q E hr h => ?_)
  · exact spM_len h fun as d hp => by obtain ⟨self, theory, rfl, rfl⟩ := hp; rfl
  · have hu := hu_of hr
    have G_Steps_holds : FnOk P w K mg base CX0 2 (A 1223) (D 1223) ["self", "constraint", "assignment"] (spM A (pre_Steps_holds K A)) := ok_Steps_holds T
    refine ⟨_, (pss_cons (ps_if (pt_val (pe_callB (id := "all") (cK_all (K := K) rfl rfl) (by rfl) T.z_all (by decide +kernel) (pa_cons (pe_lc (own := [("constraint", 2)]) (g := gName 2) (tt := tYes) rfl sc_Steps_ground.nd (iK_tup (K := K) rfl (pe_ix (xK_tup (K := K) rfl) (pv 1) pe_int (fun _ _ => rfl))) (blkOk_by (N := N_Steps_ground) (sc := defScope (topM 11 8)) (by decide +kernel)) (fun _ _ _ _ _ => (pg_name (i := 2) sc_Steps_ground.nd rfl (Or.inl rfl))) (fun _ _ _ _ _ => pts_nil) (fun _ _ _ _ _ => (methO_of (pe_meth (pv 0) T.cl_Steps T.M_Steps_holds G_Steps_holds (hr.mono (by decide)) T.b_Steps_holds .nil pass0 (pa_cons (pv 2) (pa_cons pe_dnewK pa_nil)))))) pa_nil)))
        (pss_one (ps_ret pe_dnewK))
        pss_nil)
      (pss_one (ps_ret pe_non))), ?_⟩
    refine fn_run0 h (fun as d hp => ?_) fun as d hp => ?_
    · obtain ⟨self, theory, rfl, rfl⟩ := hp; simp
    · obtain ⟨self, theory, rfl, rfl⟩ := hp
      refine ⟨_, (show f_Steps_ground self theory = Res.noerr _ from rfl), ?_⟩
      refine ws_seq ?_
      refine ws_ctx (Γ' := [.val ((yKind (A 11)) self), .val ((yPr K (yTup K yStr) (yTup K (yTr K yStr yStr yInt))) theory), .any]) rfl ?_
      refine ws_if ?_
      refine wt_b ?_
      refine wx_cb ?_
      refine wa_cons ?_
      refine wx_fz ?_
      refine wx_lcU (K := K) (yTr K yStr yStr yInt) yBl (gk_name (by decide)) ?_
      refine wi_tup ?_
      refine wx_op ?_
      refine wx_var rfl ?_
      refine ⟨_, rfl, ?_⟩
      refine wx_int ?_
      refine ⟨_, rfl, ?_⟩
      refine rx_ixT rfl ?_
      refine ⟨_, rfl, ?_⟩
      refine ⟨_, theory.2, _, rfl, rfl, fun q1 => ?_, fun r2 => ?_⟩
      · refine wg_ctx (Γ' := [.val ((yKind (A 11)) self), .val ((yPr K (yTup K yStr) (yTup K (yTr K yStr yStr yInt))) theory), .any]) rfl ?_
        refine wg_name (show 2 < 3 by decide) ?_
        refine wt_yes ?_
        refine ⟨_, (if_pos rfl).symm, ?_⟩
        refine wx_meth ?_
        refine wx_var rfl ?_
        refine ⟨_, rfl, rfl, ?_⟩
        refine wa_cons ?_
        refine wx_var rfl ?_
        refine ⟨_, rfl, ?_⟩
        refine wa_cons ?_
        refine wx_fz ?_
        refine wx_dnew ?_
        refine ⟨_, rfl, ?_⟩
        refine ⟨_, rfl, ?_⟩
        refine wa_nil ?_
        refine rc_call _ _ _ ⟨self, q1, ([] : (List (Str × Int))), rfl, rfl⟩ ⟨rfl, rfl, rfl, trivial⟩ (show List.Nodup ([] : List Nat) by decide) rfl (.inr fun _ z => by first | exact noerr_ne z | exact (nomatch z)) fun r1 _ => ?_
        exact ⟨_, rfl, rfl⟩
      refine ⟨_, rfl, ?_⟩
      refine ⟨_, rfl, ?_⟩
      refine wa_nil ?_
      refine rc_all ?_
      refine ⟨_, rfl, ?_⟩
      refine ⟨_, _, rfl, ?_, ?_⟩
      · refine ws_ctx (Γ' := [.val ((yKind (A 11)) self), .val ((yPr K (yTup K yStr) (yTup K (yTr K yStr yStr yInt))) theory), .any]) rfl ?_
        refine ws_ret ?_
        refine wx_fz ?_
        refine wx_dnew ?_
        refine ⟨_, rfl, ?_⟩
        exact ⟨_, rfl, rfl, (by first | trivial | exact ⟨rfl, trivial⟩ | exact ⟨rfl, rfl, trivial⟩)⟩
      · refine ws_next ?_
        refine ws_ctx (Γ' := [.val ((yKind (A 11)) self), .val ((yPr K (yTup K yStr) (yTup K (yTr K yStr yStr yInt))) theory), .any]) rfl ?_
        refine ws_ret ?_
        refine wx_non ?_
        exact ⟨_, rfl, rfl, (by first | trivial | exact ⟨rfl, trivial⟩ | exact ⟨rfl, rfl, trivial⟩)⟩
def pre_Steps_pin (K : PySem.W.Frag) (A : Nat → Addr) : List Ar → Cl → Prop := fun as d => ∃ (self : Unit) (names : (List Str)) (assignment : (List (Str × Int))), as = [.val ((yKind (A 11)) self), .val ((yTup K yStr) names), .val ((yDct (κ := Str) yInt) assignment)] ∧ d = ⟨(((List Str) × (List (Str × Str × Int)))), f_Steps_pin self names assignment, fun r => .val ((yPr K (yTup K yStr) (yTup K (yTr K yStr yStr yInt))) r), fun r => []⟩
theorem ok_Steps_pin (T : Txt P K mg A D) : FnOk P w K mg base CX0 1 (A 1233) (D 1233) ["self", "names", "assignment"] (spM A (pre_Steps_pin K A)) := by
  refine T.F_Steps_pin.ok sc_Steps_pin (fun vs H Q E h => ?_) (fun cdv A' outer s H vs Q E hr h => ?_)
  · exact spM_len h fun as d hp => by obtain ⟨self, names, assignment, rfl, rfl⟩ := hp; rfl
  · have hu := hu_of hr
    refine ⟨_, (pss_cons (ps_set (i := 3) sc_Steps_pin.nd rfl (Or.inl rfl) (pe_lst pa_nil))
      (pss_cons (ps_for PassesOwn.never rfl (iK_tup (K := K) rfl (pv 1)) (pg_name (i := 4) sc_Steps_pin.nd rfl (Or.inl rfl))
        (pss_cons (ps_expr (pe_bm PySem.F.plainAttrs_list PySem.F.slot_list_append PySem.F.type_list_append mt_append (pv 3) (pa_cons (pe_tup (pa_cons (pv 4) (pa_cons pe_str (pa_cons (pe_dget hu (pv 2) (pv 4) (fun _ _ => rfl)) pa_nil)))) pa_nil)))
        (pss_one (ps_expr (pe_bm PySem.F.plainAttrs_list PySem.F.slot_list_append PySem.F.type_list_append mt_append (pv 3) (pa_cons (pe_tup (pa_cons pe_str (pa_cons (pv 4) (pa_cons (pe_un un_neg (pe_dget hu (pv 2) (pv 4) (fun _ _ => rfl))) pa_nil)))) pa_nil))))))
      (pss_one (ps_ret (pe_tup (pa_cons (pv 1) (pa_cons (pe_callTy (T := "tuple") (cK_tuple (K := K) rfl) (by rfl) T.z_tuple (by decide +kernel) (pa_cons (pv 3) pa_nil)) pa_nil))))))), ?_⟩
    refine fn_run0 h (fun as d hp => ?_) fun as d hp => ?_
    · obtain ⟨self, names, assignment, rfl, rfl⟩ := hp; simp
    · obtain ⟨self, names, assignment, rfl, rfl⟩ := hp
      refine ⟨_, (show f_Steps_pin self names assignment = Res.noerr _ from rfl), ?_⟩
      refine ws_seq ?_
      refine ws_ctx (Γ' := [.val ((yKind (A 11)) self), .val ((yTup K yStr) names), .val ((yDct (κ := Str) yInt) assignment), .any, .any]) rfl ?_
      refine ws_setO (wLst K (yTr K yStr yStr yInt)) ?_
      refine wx_lst (K := K) ?_
      refine wa_nil ?_
      refine ⟨[], rfl, show 0 ≤ 1000 by decide, ?_⟩
      refine ⟨([] : List (Str × Str × Int)), _, rfl, show 3 < 5 by decide, rfl, fun constraints => ?_⟩
      refine ws_seq ?_
      refine ws_ctx (Γ' := [.val ((yKind (A 11)) self), .val ((yTup K yStr) names), .val ((yDct (κ := Str) yInt) assignment), .own false ((wLst K (yTr K yStr yStr yInt)) constraints), .any]) rfl ?_
      refine ws_for (μ := ((List (Str × Str × Int)))) yStr ?_
      refine wi_tup ?_
      refine wx_var rfl ?_
      refine ⟨_, rfl, ?_⟩
      refine ⟨_, (fun s1 : ((List (Str × Str × Int))) => [.val ((yKind (A 11)) self), .val ((yTup K yStr) names), .val ((yDct (κ := Str) yInt) assignment), .own false ((wLst K (yTr K yStr yStr yInt)) s1), .any]), names, _, _, rfl, rfl, by walk_at "subc", fun s1 q1 => ?_, fun s1 => ?_⟩
      · refine wg_name (show 4 < 5 by decide) ?_
        refine ws_seq ?_
        refine ws_ctx (Γ' := [.val ((yKind (A 11)) self), .val ((yTup K yStr) names), .val ((yDct (κ := Str) yInt) assignment), .own false ((wLst K (yTr K yStr yStr yInt)) s1), .val (yStr q1)]) rfl ?_
        refine ws_append (yTr K yStr yStr yInt) (xs0 := s1) rfl ?_
        refine wx_tup (K := K) ?_
        refine wa_cons ?_
        refine wx_var rfl ?_
        refine ⟨_, rfl, ?_⟩
        refine wa_cons ?_
        refine wx_str ?_
        refine ⟨_, rfl, ?_⟩
        refine wa_cons ?_
        refine wx_dget (t := yInt) (tk := yStr) ?_
        refine wx_var rfl ?_
        refine ⟨assignment, rfl, ?_⟩
        refine wx_var rfl ?_
        refine ⟨_, _, rfl, rfl, fun r1 => ?_⟩
        refine ⟨_, rfl, ?_⟩
        refine wa_nil ?_
        refine ⟨[yStr q1, yStr ("" : Str), yInt r1], rfl, show 3 ≤ 1000 by decide, ?_⟩
        refine ⟨_, s1, (q1, ("" : Str), r1), _, rfl, rfl, rfl, fun z1 => ?_⟩
        refine ws_ctx (Γ' := [.val ((yKind (A 11)) self), .val ((yTup K yStr) names), .val ((yDct (κ := Str) yInt) assignment), .own false ((wLst K (yTr K yStr yStr yInt)) z1), .val (yStr q1)]) rfl ?_
        refine ws_append (yTr K yStr yStr yInt) (xs0 := z1) rfl ?_
        refine wx_tup (K := K) ?_
        refine wa_cons ?_
        refine wx_str ?_
        refine ⟨_, rfl, ?_⟩
        refine wa_cons ?_
        refine wx_var rfl ?_
        refine ⟨_, rfl, ?_⟩
        refine wa_cons ?_
        refine wx_un ?_
        refine wx_dget (t := yInt) (tk := yStr) ?_
        refine wx_var rfl ?_
        refine ⟨assignment, rfl, ?_⟩
        refine wx_var rfl ?_
        refine ⟨_, _, rfl, rfl, fun r2 => ?_⟩
        refine ⟨_, rfl, ?_⟩
        refine ru_neg ?_
        refine ⟨_, rfl, ?_⟩
        refine wa_nil ?_
        refine ⟨[yStr ("" : Str), yStr q1, yInt (-r2)], rfl, show 3 ≤ 1000 by decide, ?_⟩
        refine ⟨_, z1, (("" : Str), q1, (-r2)), _, rfl, rfl, rfl, fun z2 => ?_⟩
        exact ⟨_, rfl, by walk_at "subc"⟩
      refine ws_ctx (Γ' := [.val ((yKind (A 11)) self), .val ((yTup K yStr) names), .val ((yDct (κ := Str) yInt) assignment), .own false ((wLst K (yTr K yStr yStr yInt)) s1), .any]) rfl ?_
      refine ws_frz 3 rfl ?_
      refine ws_ret ?_
      refine wx_tup (K := K) ?_
      refine wa_cons ?_
      refine wx_var rfl ?_
      refine ⟨_, rfl, ?_⟩
      refine wa_cons ?_
      refine wx_cb ?_
      refine wa_cons ?_
      refine wx_var rfl ?_
      refine ⟨_, rfl, ?_⟩
      refine wa_nil ?_
      refine rc_tuple (pLst K) ?_
      refine ⟨_, rfl, ?_⟩
      refine wa_nil ?_
      refine ⟨[(yTup K yStr) names, (yTup K (yTr K yStr yStr yInt)) s1], rfl, show 2 ≤ 1000 by decide, ?_⟩
      exact ⟨_, rfl, rfl, (by first | trivial | exact ⟨rfl, trivial⟩ | exact ⟨rfl, rfl, trivial⟩)⟩
def pre__law_source (K : PySem.W.Frag) (A : Nat → Addr) : List Ar → Cl → Prop := fun as d => ∃ (_law_script : (List Int)) (_law_k : Int), as = [.val ((yLst K yInt) _law_script), .val (yInt _law_k)] ∧ d = ⟨((List Int)), f__law_source _law_script _law_k, fun r => .own ((wLst K yInt) r), fun r => []⟩
theorem ok__law_source (T : Txt P K mg A D) : FnOk P w K mg base CX0 1 (A 13) (D 13) ["_law_script", "_law_k"] (spM A (pre__law_source K A)) := by
  refine T.F__law_source.ok sc__law_source (fun vs H Q E h => ?_) (fun cdv A' outer s H vs Q E hr h => ?_)
  · exact spM_len h fun as d hp => by obtain ⟨_law_script, _law_k, rfl, rfl⟩ := hp; rfl
  · have hu := hu_of hr
    refine ⟨_, (pss_cons (ps_set (i := 2) sc__law_source.nd rfl (Or.inl rfl) pe_int)
      (pss_cons (ps_if (pt_cmpR op_lt (pv 1) (pe_callB (id := "len") (cK_len (K := K) rfl) (by rfl) T.z_len (by decide +kernel) (pa_cons (pv 0) pa_nil)) (nomark _))
        (pss_one (ps_set (i := 2) sc__law_source.nd rfl (Or.inl rfl) (pe_callTy (T := "int") call_int1 (by rfl) T.z_int (by decide +kernel) (pa_cons (pe_ix (xK_list (K := K) rfl) (pv 0) (pv 1) (fun _ _ => rfl)) pa_nil))))
        pss_nil)
      (pss_one (ps_ret (pe_lst (pa_cons (pv 2) (pa_cons (pe_op op_add (pe_op op_mul pe_int (pv 1)) (pe_callB (id := "len") (cK_len (K := K) rfl) (by rfl) T.z_len (by decide +kernel) (pa_cons (pv 0) pa_nil))) pa_nil))))))), ?_⟩
    refine fn_run0 h (fun as d hp => ?_) fun as d hp => ?_
    · obtain ⟨_law_script, _law_k, rfl, rfl⟩ := hp; simp
    · obtain ⟨_law_script, _law_k, rfl, rfl⟩ := hp
      refine ⟨_, (show f__law_source _law_script _law_k = Res.noerr _ from rfl), ?_⟩
      refine ws_seq ?_
      refine ws_ctx (Γ' := [.val ((yLst K yInt) _law_script), .val (yInt _law_k), .any]) rfl ?_
      refine ws_setL yInt ?_
      refine wx_int ?_
      refine ⟨(0 : Int), _, rfl, show 2 < 3 by decide, rfl, fun _law_number => ?_⟩
      refine ws_seq ?_
      refine ws_ctx (Γ' := [.val ((yLst K yInt) _law_script), .val (yInt _law_k), .val (yInt _law_number)]) rfl ?_
      refine ws_blk (fun s1 : (Int) => [.val ((yLst K yInt) _law_script), .val (yInt _law_k), .val (yInt s1)]) rfl ?_ ?_
      · refine ws_if ?_
        refine wt_b ?_
        refine wx_op ?_
        refine wx_var rfl ?_
        refine ⟨_, rfl, ?_⟩
        refine wx_cb ?_
        refine wa_cons ?_
        refine wx_var rfl ?_
        refine ⟨_, rfl, ?_⟩
        refine wa_nil ?_
        refine rc_lenSq (pLst K) ?_
        rw [List.length_map]
        refine ⟨_, rfl, ?_⟩
        refine rx_cmp rfl ?_
        refine ⟨_, rfl, ?_⟩
        refine ⟨_, _, rfl, ?_, ?_⟩
        · refine ws_ctx (Γ' := [.val ((yLst K yInt) _law_script), .val (yInt _law_k), .val (yInt _law_number)]) rfl ?_
          refine ws_setL yInt ?_
          refine wx_cb ?_
          refine wa_cons ?_
          refine wx_op ?_
          refine wx_var rfl ?_
          refine ⟨_, rfl, ?_⟩
          refine wx_var rfl ?_
          refine ⟨_, rfl, ?_⟩
          refine rx_ixLp (t := yInt) (xs := _law_script) rfl fun r1 => ?_
          refine ⟨_, rfl, ?_⟩
          refine wa_nil ?_
          refine rc_int1 ?_
          refine ⟨r1, _, rfl, show 2 < 3 by decide, rfl, fun _law_number => ?_⟩
          exact ⟨_, rfl, by walk_at "subc"⟩
        · refine ws_next ?_
          exact ⟨_, rfl, by walk_at "subc"⟩
      intro s1
      refine ws_ctx (Γ' := [.val ((yLst K yInt) _law_script), .val (yInt _law_k), .val (yInt s1)]) rfl ?_
      refine ws_ret ?_
      refine wx_lst (K := K) ?_
      refine wa_cons ?_
      refine wx_var rfl ?_
      refine ⟨_, rfl, ?_⟩
      refine wa_cons ?_
      refine wx_op ?_
      refine wx_op ?_
      refine wx_int ?_
      refine ⟨_, rfl, ?_⟩
      refine wx_var rfl ?_
      refine ⟨_, rfl, ?_⟩
      refine rx_it (f := fun i j => i * j) (.inl (by decide)) rfl ?_
      refine ⟨_, rfl, ?_⟩
      refine wx_cb ?_
      refine wa_cons ?_
      refine wx_var rfl ?_
      refine ⟨_, rfl, ?_⟩
      refine wa_nil ?_
      refine rc_lenSq (pLst K) ?_
      rw [List.length_map]
      refine ⟨_, rfl, ?_⟩
      refine rx_ari rfl ?_
      refine ⟨_, rfl, ?_⟩
      refine wa_nil ?_
      refine ⟨[yInt s1, yInt (((100 : Int) * _law_k) + (_law_script.length : Int))], rfl, show 2 ≤ 1000 by decide, ?_⟩
      exact ⟨_, rfl, rfl, (by first | trivial | exact ⟨rfl, trivial⟩ | exact ⟨rfl, rfl, trivial⟩)⟩
def pre__law_draw (K : PySem.W.Frag) (A : Nat → Addr) : List Ar → Cl → Prop := fun as d => ∃ (_law_source_here : (List Int)) (_law_limit : Int), as = [.io ((wLst K yInt) _law_source_here), .val (yInt _law_limit)] ∧ d = ⟨(Int × (List Int)), f__law_draw _law_source_here _law_limit, fun r => .val (yInt r.1), fun r => [(wLst K yInt) r.2]⟩
theorem ok__law_draw (T : Txt P K mg A D) : FnOk P w K mg base CX0 1 (A 14) (D 14) ["_law_source_here", "_law_limit"] (spM A (pre__law_draw K A)) := by
  refine T.F__law_draw.ok sc__law_draw (fun vs H Q E h => ?_) (fun cdv A' outer s H vs Q E hr h => ?_)
  · exact spM_len h fun as d hp => by obtain ⟨_law_source_here, _law_limit, rfl, rfl⟩ := hp; rfl
  · have hu := hu_of hr
    refine ⟨_, (pss_cons (ps_set (i := 2) sc__law_draw.nd rfl (Or.inl rfl) (pe_ix (xK_list (K := K) rfl) (pv 0) pe_int (fun _ _ => rfl)))
      (pss_cons (ps_if (pt_cmpR op_ge (pv 2) (pe_op op_pow pe_int pe_int) (nomark _))
        (pss_cons (ps_asg (pe_op op_fdiv (pv 2) (pv 1)) (pg_sub (pv 0) pe_int set_list))
        (pss_one (ps_ret (pe_op op_mod (pe_callTy (T := "int") call_int1 (by rfl) T.z_int (by decide +kernel) (pa_cons (pv 2) pa_nil)) (pv 1)))))
        pss_nil)
      (pss_cons (ps_asg (pe_op op_add (pe_ix (xK_list (K := K) rfl) (pv 0) pe_int (fun _ _ => rfl)) pe_int) (pg_sub (pv 0) pe_int set_list))
      (pss_cons (ps_set (i := 3) sc__law_draw.nd rfl (Or.inl rfl) (pe_op op_mod (pe_callTy (T := "int") call_int1 (by rfl) T.z_int (by decide +kernel) (pa_cons (pe_op op_add (pe_op op_add (pe_op op_mul (pv 2) pe_int) (pe_op op_mul (pe_ix (xK_list (K := K) rfl) (pv 0) pe_int (fun _ _ => rfl)) pe_int)) pe_int) pa_nil)) pe_int))
      (pss_cons (ps_set (i := 3) sc__law_draw.nd rfl (Or.inl rfl) (pe_op op_mod (pe_callTy (T := "int") call_int1 (by rfl) T.z_int (by decide +kernel) (pa_cons (pe_op op_add (pe_op op_add (pe_op op_mul (pv 3) (pv 3)) (pv 2)) (pe_op op_mul (pe_ix (xK_list (K := K) rfl) (pv 0) pe_int (fun _ _ => rfl)) pe_int)) pa_nil)) pe_int))
      (pss_cons (ps_set (i := 3) sc__law_draw.nd rfl (Or.inl rfl) (pe_op op_mod (pe_callTy (T := "int") call_int1 (by rfl) T.z_int (by decide +kernel) (pa_cons (pe_op op_add (pe_op op_add (pe_op op_mul (pv 3) (pv 3)) (pe_op op_fdiv (pv 3) pe_int)) pe_int) pa_nil)) pe_int))
      (pss_one (ps_ret (pe_op op_mod (pe_op op_fdiv (pe_callTy (T := "int") call_int1 (by rfl) T.z_int (by decide +kernel) (pa_cons (pv 3) pa_nil)) pe_int) (pv 1)))))))))), ?_⟩
    refine fn_run0 h (fun as d hp => ?_) fun as d hp => ?_
    · obtain ⟨_law_source_here, _law_limit, rfl, rfl⟩ := hp; simp
    · obtain ⟨_law_source_here, _law_limit, rfl, rfl⟩ := hp
      refine ⟨_, (show f__law_draw _law_source_here _law_limit = Res.noerr _ from rfl), ?_⟩
      refine ws_seq ?_
      refine ws_ctx (Γ' := [.own true ((wLst K yInt) _law_source_here), .val (yInt _law_limit), .any, .any]) rfl ?_
      refine ws_setL yInt ?_
      refine wx_peek ?_
      refine wx_op ?_
      refine wx_var rfl ?_
      refine ⟨_, rfl, ?_⟩
      refine wx_int ?_
      refine ⟨_, rfl, ?_⟩
      refine rx_ixLp (t := yInt) (xs := _law_source_here) rfl fun r1 => ?_
      refine ⟨_, rfl, imm_int, ?_⟩
      refine ⟨r1, _, rfl, show 2 < 4 by decide, rfl, fun _law_number => ?_⟩
      refine ws_seq ?_
      refine ws_ctx (Γ' := [.own true ((wLst K yInt) _law_source_here), .val (yInt _law_limit), .val (yInt _law_number), .any]) rfl ?_
      refine ws_if ?_
      refine wt_b ?_
      refine wx_op ?_
      refine wx_var rfl ?_
      refine ⟨_, rfl, ?_⟩
      refine wx_op ?_
      refine wx_int ?_
      refine ⟨_, rfl, ?_⟩
      refine wx_int ?_
      refine ⟨_, rfl, ?_⟩
      refine rx_it (f := fun i j => i ^ j.toNat) ⟨by decide, by decide, by decide⟩ rfl ?_
      refine ⟨_, rfl, ?_⟩
      refine rx_cmp rfl ?_
      refine ⟨_, rfl, ?_⟩
      refine ⟨_, _, rfl, ?_, ?_⟩
      · refine ws_seq ?_
        refine ws_ctx (Γ' := [.own true ((wLst K yInt) _law_source_here), .val (yInt _law_limit), .val (yInt _law_number), .any]) rfl ?_
        refine ws_lset (K := K) yInt ?_
        refine wx_op ?_
        refine wx_var rfl ?_
        refine ⟨_, rfl, ?_⟩
        refine wx_var rfl ?_
        refine ⟨_, rfl, ?_⟩
        refine rx_div rfl rfl fun r2 => ?_
        refine ⟨r2, rfl, ⟨_, _, rfl⟩, ?_⟩
        refine wx_int ?_
        refine ⟨_, _law_source_here, (0 : Int), _, rfl, rfl, rfl, fun z1 => ?_⟩
        refine ws_ctx (Γ' := [.own true ((wLst K yInt) z1), .val (yInt _law_limit), .val (yInt _law_number), .any]) rfl ?_
        refine ws_ret ?_
        refine wx_op ?_
        refine wx_cb ?_
        refine wa_cons ?_
        refine wx_var rfl ?_
        refine ⟨_, rfl, ?_⟩
        refine wa_nil ?_
        refine rc_int1 ?_
        refine ⟨_, rfl, ?_⟩
        refine wx_var rfl ?_
        refine ⟨_, rfl, ?_⟩
        refine rx_mod rfl rfl fun r3 => ?_
        exact ⟨_, rfl, rfl, (by first | trivial | exact ⟨rfl, trivial⟩ | exact ⟨rfl, rfl, trivial⟩)⟩
      · refine ws_next ?_
        refine ws_seq ?_
        refine ws_ctx (Γ' := [.own true ((wLst K yInt) _law_source_here), .val (yInt _law_limit), .val (yInt _law_number), .any]) rfl ?_
        refine ws_lset (K := K) yInt ?_
        refine wx_op ?_
        refine wx_peek ?_
        refine wx_op ?_
        refine wx_var rfl ?_
        refine ⟨_, rfl, ?_⟩
        refine wx_int ?_
        refine ⟨_, rfl, ?_⟩
        refine rx_ixLp (t := yInt) (xs := _law_source_here) rfl fun r4 => ?_
        refine ⟨_, rfl, imm_int, ?_⟩
        refine ⟨_, rfl, ?_⟩
        refine wx_int ?_
        refine ⟨_, rfl, ?_⟩
        refine rx_ari rfl ?_
        refine ⟨(r4 + (1 : Int)), rfl, ⟨_, _, rfl⟩, ?_⟩
        refine wx_int ?_
        refine ⟨_, _law_source_here, (1 : Int), _, rfl, rfl, rfl, fun z2 => ?_⟩
        refine ws_seq ?_
        refine ws_ctx (Γ' := [.own true ((wLst K yInt) z2), .val (yInt _law_limit), .val (yInt _law_number), .any]) rfl ?_
        refine ws_setL yInt ?_
        refine wx_op ?_
        refine wx_cb ?_
        refine wa_cons ?_
        refine wx_op ?_
        refine wx_op ?_
        refine wx_op ?_
        refine wx_var rfl ?_
        refine ⟨_, rfl, ?_⟩
        refine wx_int ?_
        refine ⟨_, rfl, ?_⟩
        refine rx_it (f := fun i j => i * j) (.inr (by decide)) rfl ?_
        refine ⟨_, rfl, ?_⟩
        refine wx_op ?_
        refine wx_peek ?_
        refine wx_op ?_
        refine wx_var rfl ?_
        refine ⟨_, rfl, ?_⟩
        refine wx_int ?_
        refine ⟨_, rfl, ?_⟩
        refine rx_ixLp (t := yInt) (xs := z2) rfl fun r5 => ?_
        refine ⟨_, rfl, imm_int, ?_⟩
        refine ⟨_, rfl, ?_⟩
        refine wx_int ?_
        refine ⟨_, rfl, ?_⟩
        refine rx_it (f := fun i j => i * j) (.inr (by decide)) rfl ?_
        refine ⟨_, rfl, ?_⟩
        refine rx_ari rfl ?_
        refine ⟨_, rfl, ?_⟩
        refine wx_int ?_
        refine ⟨_, rfl, ?_⟩
        refine rx_ari rfl ?_
        refine ⟨_, rfl, ?_⟩
        refine wa_nil ?_
        refine rc_int1 ?_
        refine ⟨_, rfl, ?_⟩
        refine wx_int ?_
        refine ⟨_, rfl, ?_⟩
        refine rx_it (f := fun i j => i % j) (by decide) rfl ?_
        refine ⟨((((_law_number * (48271 : Int)) + (r5 * (69621 : Int))) + (7 : Int)) % (2147483647 : Int)), _, rfl, show 3 < 4 by decide, rfl, fun _law_mixed => ?_⟩
        refine ws_seq ?_
        refine ws_ctx (Γ' := [.own true ((wLst K yInt) z2), .val (yInt _law_limit), .val (yInt _law_number), .val (yInt _law_mixed)]) rfl ?_
        refine ws_setL yInt ?_
        refine wx_op ?_
        refine wx_cb ?_
        refine wa_cons ?_
        refine wx_op ?_
        refine wx_op ?_
        refine wx_op ?_
        refine wx_var rfl ?_
        refine ⟨_, rfl, ?_⟩
        refine wx_var rfl ?_
        refine ⟨_, rfl, ?_⟩
        refine rx_mul rfl rfl fun r6 => ?_
        refine ⟨_, rfl, ?_⟩
        refine wx_var rfl ?_
        refine ⟨_, rfl, ?_⟩
        refine rx_ari rfl ?_
        refine ⟨_, rfl, ?_⟩
        refine wx_op ?_
        refine wx_peek ?_
        refine wx_op ?_
        refine wx_var rfl ?_
        refine ⟨_, rfl, ?_⟩
        refine wx_int ?_
        refine ⟨_, rfl, ?_⟩
        refine rx_ixLp (t := yInt) (xs := z2) rfl fun r7 => ?_
        refine ⟨_, rfl, imm_int, ?_⟩
        refine ⟨_, rfl, ?_⟩
        refine wx_int ?_
        refine ⟨_, rfl, ?_⟩
        refine rx_it (f := fun i j => i * j) (.inr (by decide)) rfl ?_
        refine ⟨_, rfl, ?_⟩
        refine rx_ari rfl ?_
        refine ⟨_, rfl, ?_⟩
        refine wa_nil ?_
        refine rc_int1 ?_
        refine ⟨_, rfl, ?_⟩
        refine wx_int ?_
        refine ⟨_, rfl, ?_⟩
        refine rx_it (f := fun i j => i % j) (by decide) rfl ?_
        refine ⟨(((r6 + _law_number) + (r7 * (40692 : Int))) % (2147483629 : Int)), _, rfl, show 3 < 4 by decide, rfl, fun _law_mixed => ?_⟩
        refine ws_seq ?_
        refine ws_ctx (Γ' := [.own true ((wLst K yInt) z2), .val (yInt _law_limit), .val (yInt _law_number), .val (yInt _law_mixed)]) rfl ?_
        refine ws_setL yInt ?_
        refine wx_op ?_
        refine wx_cb ?_
        refine wa_cons ?_
        refine wx_op ?_
        refine wx_op ?_
        refine wx_op ?_
        refine wx_var rfl ?_
        refine ⟨_, rfl, ?_⟩
        refine wx_var rfl ?_
        refine ⟨_, rfl, ?_⟩
        refine rx_mul rfl rfl fun r8 => ?_
        refine ⟨_, rfl, ?_⟩
        refine wx_op ?_
        refine wx_var rfl ?_
        refine ⟨_, rfl, ?_⟩
        refine wx_int ?_
        refine ⟨_, rfl, ?_⟩
        refine rx_it (f := fun i j => i / j) ⟨by decide, by decide⟩ rfl ?_
        refine ⟨_, rfl, ?_⟩
        refine rx_ari rfl ?_
        refine ⟨_, rfl, ?_⟩
        refine wx_int ?_
        refine ⟨_, rfl, ?_⟩
        refine rx_ari rfl ?_
        refine ⟨_, rfl, ?_⟩
        refine wa_nil ?_
        refine rc_int1 ?_
        refine ⟨_, rfl, ?_⟩
        refine wx_int ?_
        refine ⟨_, rfl, ?_⟩
        refine rx_it (f := fun i j => i % j) (by decide) rfl ?_
        refine ⟨(((r8 + (_law_mixed / (4096 : Int))) + (12345 : Int)) % (2147483587 : Int)), _, rfl, show 3 < 4 by decide, rfl, fun _law_mixed => ?_⟩
        refine ws_ctx (Γ' := [.own true ((wLst K yInt) z2), .val (yInt _law_limit), .val (yInt _law_number), .val (yInt _law_mixed)]) rfl ?_
        refine ws_ret ?_
        refine wx_op ?_
        refine wx_op ?_
        refine wx_cb ?_
        refine wa_cons ?_
        refine wx_var rfl ?_
        refine ⟨_, rfl, ?_⟩
        refine wa_nil ?_
        refine rc_int1 ?_
        refine ⟨_, rfl, ?_⟩
        refine wx_int ?_
        refine ⟨_, rfl, ?_⟩
        refine rx_it (f := fun i j => i / j) ⟨by decide, by decide⟩ rfl ?_
        refine ⟨_, rfl, ?_⟩
        refine wx_var rfl ?_
        refine ⟨_, rfl, ?_⟩
        refine rx_mod rfl rfl fun r9 => ?_
        exact ⟨_, rfl, rfl, (by first | trivial | exact ⟨rfl, trivial⟩ | exact ⟨rfl, rfl, trivial⟩)⟩
def pre__law_some (K : PySem.W.Frag) (A : Nat → Addr) : List Ar → Cl → Prop := fun as d => ∃ (_law_source_here : (List Int)) (_law_names : (List Str)) (_law_most : Int), as = [.io ((wLst K yInt) _law_source_here), .val ((ySeqq K yStr) _law_names), .val (yInt _law_most)] ∧ d = ⟨((List Str) × (List Int)), f__law_some _law_source_here _law_names _law_most, fun r => .own ((wLst K yStr) r.1), fun r => [(wLst K yInt) r.2]⟩
theorem ok__law_some (T : Txt P K mg A D) : FnOk P w K mg base CX0 2 (A 15) (D 15) ["_law_source_here", "_law_names", "_law_most"] (spM A (pre__law_some K A)) := by
  refine T.F__law_some.ok sc__law_some (fun vs H Q E h => ?_) (fun cdv A' outer s H vs Q E hr h => ?_)
  · exact spM_len h fun as d hp => by obtain ⟨_law_source_here, _law_names, _law_most, rfl, rfl⟩ := hp; rfl
  · have hu := hu_of hr
    have G__law_draw : FnOk P w K mg base CX0 1 (A 14) (D 14) ["_law_source_here", "_law_limit"] (spM A (pre__law_draw K A)) := ok__law_draw T
    refine ⟨_, (pss_cons (ps_set (i := 3) sc__law_some.nd rfl (Or.inl rfl) (pe_lst pa_nil))
      (pss_cons (ps_for PassesOwn.never rfl (pi_or (iK_list (K := K) rfl (pv 1)) (iK_tup (K := K) rfl (pv 1))) (pg_name (i := 4) sc__law_some.nd rfl (Or.inl rfl))
        (pss_one (ps_if (PW.pt (pw_and (pt_cmpR op_lt (pe_callB (id := "len") (cK_len (K := K) rfl) (by rfl) T.z_len (by decide +kernel) (pa_cons (pv 3) pa_nil)) (pv 2) (nomark _)) (pw_and1 (pt_cmpR op_gt (pe_call G__law_draw (hr.mono (by decide)) rfl T.g__law_draw T.F__law_draw.kp T.b__law_draw .nil pass0 (pa_cons (pv 0) (pa_cons pe_int pa_nil))) pe_int (nomark _)))))
          (pss_one (ps_expr (pe_bm PySem.F.plainAttrs_list PySem.F.slot_list_append PySem.F.type_list_append mt_append (pv 3) (pa_cons (pv 4) pa_nil))))
          pss_nil)))
      (pss_one (ps_ret (pv 3))))), ?_⟩
    refine fn_run0 h (fun as d hp => ?_) fun as d hp => ?_
    · obtain ⟨_law_source_here, _law_names, _law_most, rfl, rfl⟩ := hp; simp
    · obtain ⟨_law_source_here, _law_names, _law_most, rfl, rfl⟩ := hp
      refine ⟨_, (show f__law_some _law_source_here _law_names _law_most = Res.noerr _ from rfl), ?_⟩
      refine ws_seq ?_
      refine ws_ctx (Γ' := [.own true ((wLst K yInt) _law_source_here), .val ((ySeqq K yStr) _law_names), .val (yInt _law_most), .any, .any]) rfl ?_
      refine ws_setO (wLst K yStr) ?_
      refine wx_lst (K := K) ?_
      refine wa_nil ?_
      refine ⟨[], rfl, show 0 ≤ 1000 by decide, ?_⟩
      refine ⟨([] : List Str), _, rfl, show 3 < 5 by decide, rfl, fun _law_found => ?_⟩
      refine ws_seq ?_
      refine ws_ctx (Γ' := [.own true ((wLst K yInt) _law_source_here), .val ((ySeqq K yStr) _law_names), .val (yInt _law_most), .own false ((wLst K yStr) _law_found), .any]) rfl ?_
      refine ws_for (μ := ((List Int) × (List Str))) yStr ?_
      refine wi_seq rfl ?_
      refine ⟨_, (fun s1 : ((List Int) × (List Str)) => [.own true ((wLst K yInt) s1.1), .val ((ySeqq K yStr) _law_names), .val (yInt _law_most), .own false ((wLst K yStr) s1.2), .any]), _law_names, _, _, rfl, rfl, by walk_at "subc", fun s1 q1 => ?_, fun s1 => ?_⟩
      · refine wg_name (show 4 < 5 by decide) ?_
        refine ws_ctx (Γ' := [.own true ((wLst K yInt) s1.1), .val ((ySeqq K yStr) _law_names), .val (yInt _law_most), .own false ((wLst K yStr) s1.2), .val (yStr q1)]) rfl ?_
        refine ws_if ?_
        refine wt_andM (μ := ((List Int))) ?_
        refine wt_b ?_
        refine wx_op ?_
        refine wx_peek ?_
        refine wx_cb ?_
        refine wa_cons ?_
        refine wx_var rfl ?_
        refine ⟨_, rfl, ?_⟩
        refine wa_nil ?_
        refine rc_lenSq (pLst K) ?_
        rw [List.length_map]
        refine ⟨_, rfl, imm_int, ?_⟩
        refine ⟨_, rfl, ?_⟩
        refine wx_var rfl ?_
        refine ⟨_, rfl, ?_⟩
        refine rx_cmp rfl ?_
        refine ⟨_, rfl, ?_⟩
        refine ⟨(fun s2 : ((List Int)) => [.own true ((wLst K yInt) s2), .val ((ySeqq K yStr) _law_names), .val (yInt _law_most), .own false ((wLst K yStr) s1.2), .val (yStr q1)]), _, (s1.1), _, rfl, by walk_at "subc", fun _ => ?_, fun r2 => ?_⟩
        · refine wt_b ?_
          refine wx_op ?_
          refine wx_call ?_
          refine wa_io rfl ?_
          refine wa_cons ?_
          refine wx_int ?_
          refine ⟨_, rfl, ?_⟩
          refine wa_nil ?_
          refine rc_call _ _ _ ⟨s1.1, (3 : Int), rfl, rfl⟩ ⟨⟨_, rfl⟩, rfl, trivial⟩ (show List.Nodup ([0] : List Nat) by decide) rfl (.inr fun _ z => by first | exact noerr_ne z | exact (nomatch z)) fun r1 _ => ?_
          refine ⟨_, rfl, ?_⟩
          refine wx_int ?_
          refine ⟨_, rfl, ?_⟩
          refine rx_cmp rfl ?_
          refine ⟨_, rfl, ?_⟩
          exact ⟨_, rfl, by walk_at "subc"⟩
        refine ⟨_, _, rfl, ?_, ?_⟩
        · refine ws_ctx (Γ' := [.own true ((wLst K yInt) r2.2), .val ((ySeqq K yStr) _law_names), .val (yInt _law_most), .own false ((wLst K yStr) s1.2), .val (yStr q1)]) rfl ?_
          refine ws_append yStr (xs0 := s1.2) rfl ?_
          refine wx_var rfl ?_
          refine ⟨_, s1.2, q1, _, rfl, rfl, rfl, fun z1 => ?_⟩
          exact ⟨_, rfl, by walk_at "subc"⟩
        · refine ws_next ?_
          exact ⟨_, rfl, by walk_at "subc"⟩
      refine ws_ctx (Γ' := [.own true ((wLst K yInt) s1.1), .val ((ySeqq K yStr) _law_names), .val (yInt _law_most), .own false ((wLst K yStr) s1.2), .any]) rfl ?_
      refine ws_ret ?_
      refine wx_take rfl ?_
      exact ⟨_, rfl, rfl, (by first | trivial | exact ⟨rfl, trivial⟩ | exact ⟨rfl, rfl, trivial⟩)⟩
def pre__law_bound (K : PySem.W.Frag) (A : Nat → Addr) : List Ar → Cl → Prop := fun as d => ∃ (_law_source_here : (List Int)), as = [.io ((wLst K yInt) _law_source_here)] ∧ d = ⟨(Int × (List Int)), f__law_bound _law_source_here, fun r => .val (yInt r.1), fun r => [(wLst K yInt) r.2]⟩
theorem ok__law_bound (T : Txt P K mg A D) : FnOk P w K mg base CX0 2 (A 16) (D 16) ["_law_source_here"] (spM A (pre__law_bound K A)) := by
  refine T.F__law_bound.ok sc__law_bound (fun vs H Q E h => ?_) (fun cdv A' outer s H vs Q E hr h => ?_)
  · exact spM_len h fun as d hp => by obtain ⟨_law_source_here, rfl, rfl⟩ := hp; rfl
  · have hu := hu_of hr
    have G__law_draw : FnOk P w K mg base CX0 1 (A 14) (D 14) ["_law_source_here", "_law_limit"] (spM A (pre__law_draw K A)) := ok__law_draw T
    refine ⟨_, (pss_cons (ps_if (pt_cmpR op_eq (pe_call G__law_draw (hr.mono (by decide)) rfl T.g__law_draw T.F__law_draw.kp T.b__law_draw .nil pass0 (pa_cons (pv 0) (pa_cons pe_int pa_nil))) pe_int (nomark _))
        (pss_one (ps_ret (pe_op op_sub (pe_call G__law_draw (hr.mono (by decide)) rfl T.g__law_draw T.F__law_draw.kp T.b__law_draw .nil pass0 (pa_cons (pv 0) (pa_cons pe_int pa_nil))) pe_int)))
        pss_nil)
      (pss_one (ps_ret (pe_op op_sub (pe_call G__law_draw (hr.mono (by decide)) rfl T.g__law_draw T.F__law_draw.kp T.b__law_draw .nil pass0 (pa_cons (pv 0) (pa_cons pe_int pa_nil))) pe_int)))), ?_⟩
    refine fn_run0 h (fun as d hp => ?_) fun as d hp => ?_
    · obtain ⟨_law_source_here, rfl, rfl⟩ := hp; simp
    · obtain ⟨_law_source_here, rfl, rfl⟩ := hp
      refine ⟨_, (show f__law_bound _law_source_here = Res.noerr _ from rfl), ?_⟩
      refine ws_seq ?_
      refine ws_ctx (Γ' := [.own true ((wLst K yInt) _law_source_here)]) rfl ?_
      refine ws_if ?_
      refine wt_b ?_
      refine wx_op ?_
      refine wx_call ?_
      refine wa_io rfl ?_
      refine wa_cons ?_
      refine wx_int ?_
      refine ⟨_, rfl, ?_⟩
      refine wa_nil ?_
      refine rc_call _ _ _ ⟨_law_source_here, (4 : Int), rfl, rfl⟩ ⟨⟨_, rfl⟩, rfl, trivial⟩ (show List.Nodup ([0] : List Nat) by decide) rfl (.inr fun _ z => by first | exact noerr_ne z | exact (nomatch z)) fun r1 _ => ?_
      refine ⟨_, rfl, ?_⟩
      refine wx_int ?_
      refine ⟨_, rfl, ?_⟩
      refine rx_eq ?_
      refine ⟨_, rfl, ?_⟩
      refine ⟨_, _, rfl, ?_, ?_⟩
      · refine ws_ctx (Γ' := [.own true ((wLst K yInt) r1.2)]) rfl ?_
        refine ws_ret ?_
        refine wx_op ?_
        refine wx_call ?_
        refine wa_io rfl ?_
        refine wa_cons ?_
        refine wx_int ?_
        refine ⟨_, rfl, ?_⟩
        refine wa_nil ?_
        refine rc_call _ _ _ ⟨r1.2, (199 : Int), rfl, rfl⟩ ⟨⟨_, rfl⟩, rfl, trivial⟩ (show List.Nodup ([0] : List Nat) by decide) rfl (.inr fun _ z => by first | exact noerr_ne z | exact (nomatch z)) fun r2 _ => ?_
        refine ⟨_, rfl, ?_⟩
        refine wx_int ?_
        refine ⟨_, rfl, ?_⟩
        refine rx_ari rfl ?_
        exact ⟨_, rfl, rfl, (by first | trivial | exact ⟨rfl, trivial⟩ | exact ⟨rfl, rfl, trivial⟩)⟩
      · refine ws_next ?_
        refine ws_ctx (Γ' := [.own true ((wLst K yInt) r1.2)]) rfl ?_
        refine ws_ret ?_
        refine wx_op ?_
        refine wx_call ?_
        refine wa_io rfl ?_
        refine wa_cons ?_
        refine wx_int ?_
        refine ⟨_, rfl, ?_⟩
        refine wa_nil ?_
        refine rc_call _ _ _ ⟨r1.2, (9 : Int), rfl, rfl⟩ ⟨⟨_, rfl⟩, rfl, trivial⟩ (show List.Nodup ([0] : List Nat) by decide) rfl (.inr fun _ z => by first | exact noerr_ne z | exact (nomatch z)) fun r3 _ => ?_
        refine ⟨_, rfl, ?_⟩
        refine wx_int ?_
        refine ⟨_, rfl, ?_⟩
        refine rx_ari rfl ?_
        exact ⟨_, rfl, rfl, (by first | trivial | exact ⟨rfl, trivial⟩ | exact ⟨rfl, rfl, trivial⟩)⟩
def pre__law_constraint (K : PySem.W.Frag) (A : Nat → Addr) : List Ar → Cl → Prop := fun as d => ∃ (_law_source_here : (List Int)) (_law_names : (List Str)), as = [.io ((wLst K yInt) _law_source_here), .val ((ySeqq K yStr) _law_names)] ∧ d = ⟨((Str × Str × Int) × (List Int)), f__law_constraint _law_source_here _law_names, fun r => .val ((yTr K yStr yStr yInt) r.1), fun r => [(wLst K yInt) r.2]⟩
theorem ok__law_constraint (T : Txt P K mg A D) : FnOk P w K mg base CX0 3 (A 17) (D 17) ["_law_source_here", "_law_names"] (spM A (pre__law_constraint K A)) := by
  refine T.F__law_constraint.ok sc__law_constraint (fun vs H Q E h => ?_) (fun cdv A' outer s H vs Q E hr h => ?_)
  · exact spM_len h fun as d hp => by obtain ⟨_law_source_here, _law_names, rfl, rfl⟩ := hp; rfl
  · have hu := hu_of hr
    have G__law_draw : FnOk P w K mg base CX0 1 (A 14) (D 14) ["_law_source_here", "_law_limit"] (spM A (pre__law_draw K A)) := ok__law_draw T
    have G__law_bound : FnOk P w K mg base CX0 2 (A 16) (D 16) ["_law_source_here"] (spM A (pre__law_bound K A)) := ok__law_bound T
    refine ⟨_, (pss_cons (ps_set (i := 2) sc__law_constraint.nd rfl (Or.inl rfl) (pe_op (op_catS (K := K) rfl) (pe_lst (pa_cons pe_str pa_nil)) (pe_callTy (T := "list") (cK_list (K := K) rfl) (by rfl) T.z_list (by decide +kernel) (pa_cons (pv 1) pa_nil))))
      (pss_cons (ps_set (i := 3) sc__law_constraint.nd rfl (Or.inl rfl) (pe_ix (xK_list (K := K) rfl) (pv 2) (pe_call G__law_draw (hr.mono (by decide)) rfl T.g__law_draw T.F__law_draw.kp T.b__law_draw .nil pass0 (pa_cons (pv 0) (pa_cons (pe_callB (id := "len") (cK_len (K := K) rfl) (by rfl) T.z_len (by decide +kernel) (pa_cons (pv 2) pa_nil)) pa_nil))) (fun _ _ => rfl)))
      (pss_cons (ps_set (i := 4) sc__law_constraint.nd rfl (Or.inl rfl) (pe_ix (xK_list (K := K) rfl) (pv 2) (pe_call G__law_draw (hr.mono (by decide)) rfl T.g__law_draw T.F__law_draw.kp T.b__law_draw .nil pass0 (pa_cons (pv 0) (pa_cons (pe_callB (id := "len") (cK_len (K := K) rfl) (by rfl) T.z_len (by decide +kernel) (pa_cons (pv 2) pa_nil)) pa_nil))) (fun _ _ => rfl)))
      (pss_cons (ps_if (PW.pt (pw_and (pt_cmpR op_eq (pv 3) (pv 4) (nomark _)) (pw_and1 (pt_cmpR op_ne (pv 3) pe_str (nomark _)))))
        (pss_one (ps_set (i := 4) sc__law_constraint.nd rfl (Or.inl rfl) pe_str))
        pss_nil)
      (pss_one (ps_ret (pe_tup (pa_cons (pv 3) (pa_cons (pv 4) (pa_cons (pe_call G__law_bound (hr.mono (by decide)) rfl T.g__law_bound T.F__law_bound.kp T.b__law_bound .nil pass0 (pa_cons (pv 0) pa_nil)) pa_nil)))))))))), ?_⟩
    refine fn_run0 h (fun as d hp => ?_) fun as d hp => ?_
    · obtain ⟨_law_source_here, _law_names, rfl, rfl⟩ := hp; simp
    · obtain ⟨_law_source_here, _law_names, rfl, rfl⟩ := hp
      refine ⟨_, (show f__law_constraint _law_source_here _law_names = Res.noerr _ from rfl), ?_⟩
      refine ws_seq ?_
      refine ws_ctx (Γ' := [.own true ((wLst K yInt) _law_source_here), .val ((ySeqq K yStr) _law_names), .any, .any, .any]) rfl ?_
      refine ws_setL (yLst K yStr) ?_
      refine wx_fz ?_
      refine wx_op ?_
      refine wx_fz ?_
      refine wx_lst (K := K) ?_
      refine wa_cons ?_
      refine wx_str ?_
      refine ⟨_, rfl, ?_⟩
      refine wa_nil ?_
      refine ⟨[yStr ("" : Str)], rfl, show 1 ≤ 1000 by decide, ?_⟩
      refine ⟨_, rfl, ?_⟩
      refine ⟨_, rfl, ?_⟩
      refine wx_fz ?_
      refine wx_cb ?_
      refine wa_cons ?_
      refine wx_var rfl ?_
      refine ⟨_, rfl, ?_⟩
      refine wa_nil ?_
      refine rc_list (pSeq K) ?_
      refine ⟨_, rfl, ?_⟩
      refine ⟨_, rfl, ?_⟩
      refine rx_catL (t := yStr) (xs := ([("" : Str)] : List Str)) (ys := _law_names) rfl ?_
      refine ⟨_, rfl, ?_⟩
      refine ⟨(([("" : Str)] : List Str) ++ _law_names), _, rfl, show 2 < 5 by decide, rfl, fun _law_ends => ?_⟩
      refine ws_seq ?_
      refine ws_ctx (Γ' := [.own true ((wLst K yInt) _law_source_here), .val ((ySeqq K yStr) _law_names), .val ((yLst K yStr) _law_ends), .any, .any]) rfl ?_
      refine ws_setL yStr ?_
      refine wx_op ?_
      refine wx_var rfl ?_
      refine ⟨_, rfl, ?_⟩
      refine wx_call ?_
      refine wa_io rfl ?_
      refine wa_cons ?_
      refine wx_cb ?_
      refine wa_cons ?_
      refine wx_var rfl ?_
      refine ⟨_, rfl, ?_⟩
      refine wa_nil ?_
      refine rc_lenSq (pLst K) ?_
      rw [List.length_map]
      refine ⟨_, rfl, ?_⟩
      refine wa_nil ?_
      refine rc_call _ _ _ ⟨_law_source_here, (_law_ends.length : Int), rfl, rfl⟩ ⟨⟨_, rfl⟩, rfl, trivial⟩ (show List.Nodup ([0] : List Nat) by decide) rfl (.inr fun _ z => by first | exact noerr_ne z | exact (nomatch z)) fun r2 _ => ?_
      refine ⟨_, rfl, ?_⟩
      refine rx_ixLp (t := yStr) (xs := _law_ends) rfl fun r3 => ?_
      refine ⟨r3, _, rfl, show 3 < 5 by decide, rfl, fun _law_x => ?_⟩
      refine ws_seq ?_
      refine ws_ctx (Γ' := [.own true ((wLst K yInt) r2.2), .val ((ySeqq K yStr) _law_names), .val ((yLst K yStr) _law_ends), .val (yStr _law_x), .any]) rfl ?_
      refine ws_setL yStr ?_
      refine wx_op ?_
      refine wx_var rfl ?_
      refine ⟨_, rfl, ?_⟩
      refine wx_call ?_
      refine wa_io rfl ?_
      refine wa_cons ?_
      refine wx_cb ?_
      refine wa_cons ?_
      refine wx_var rfl ?_
      refine ⟨_, rfl, ?_⟩
      refine wa_nil ?_
      refine rc_lenSq (pLst K) ?_
      rw [List.length_map]
      refine ⟨_, rfl, ?_⟩
      refine wa_nil ?_
      refine rc_call _ _ _ ⟨r2.2, (_law_ends.length : Int), rfl, rfl⟩ ⟨⟨_, rfl⟩, rfl, trivial⟩ (show List.Nodup ([0] : List Nat) by decide) rfl (.inr fun _ z => by first | exact noerr_ne z | exact (nomatch z)) fun r4 _ => ?_
      refine ⟨_, rfl, ?_⟩
      refine rx_ixLp (t := yStr) (xs := _law_ends) rfl fun r5 => ?_
      refine ⟨r5, _, rfl, show 4 < 5 by decide, rfl, fun _law_y => ?_⟩
      refine ws_seq ?_
      refine ws_ctx (Γ' := [.own true ((wLst K yInt) r4.2), .val ((ySeqq K yStr) _law_names), .val ((yLst K yStr) _law_ends), .val (yStr _law_x), .val (yStr _law_y)]) rfl ?_
      refine ws_blk (fun s1 : (Str) => [.own true ((wLst K yInt) r4.2), .val ((ySeqq K yStr) _law_names), .val ((yLst K yStr) _law_ends), .val (yStr _law_x), .val (yStr s1)]) rfl ?_ ?_
      · refine ws_if ?_
        refine wt_and (!decide (_law_x = ("" : Str))) ?_
        refine wt_b ?_
        refine wx_op ?_
        refine wx_var rfl ?_
        refine ⟨_, rfl, ?_⟩
        refine wx_var rfl ?_
        refine ⟨_, rfl, ?_⟩
        refine rx_eq ?_
        refine ⟨_, rfl, ?_⟩
        refine ⟨fun _ => ?_, ?_⟩
        · refine wt_b ?_
          refine wx_op ?_
          refine wx_var rfl ?_
          refine ⟨_, rfl, ?_⟩
          refine wx_str ?_
          refine ⟨_, rfl, ?_⟩
          refine rx_ne ?_
          refine ⟨_, rfl, ?_⟩
          exact ⟨rfl, rfl, rfl⟩
        refine ⟨_, _, rfl, ?_, ?_⟩
        · refine ws_ctx (Γ' := [.own true ((wLst K yInt) r4.2), .val ((ySeqq K yStr) _law_names), .val ((yLst K yStr) _law_ends), .val (yStr _law_x), .val (yStr _law_y)]) rfl ?_
          refine ws_setL yStr ?_
          refine wx_str ?_
          refine ⟨("" : Str), _, rfl, show 4 < 5 by decide, rfl, fun _law_y => ?_⟩
          exact ⟨_, rfl, by walk_at "subc"⟩
        · refine ws_next ?_
          exact ⟨_, rfl, by walk_at "subc"⟩
      intro s1
      refine ws_ctx (Γ' := [.own true ((wLst K yInt) r4.2), .val ((ySeqq K yStr) _law_names), .val ((yLst K yStr) _law_ends), .val (yStr _law_x), .val (yStr s1)]) rfl ?_
      refine ws_ret ?_
      refine wx_tup (K := K) ?_
      refine wa_cons ?_
      refine wx_var rfl ?_
      refine ⟨_, rfl, ?_⟩
      refine wa_cons ?_
      refine wx_var rfl ?_
      refine ⟨_, rfl, ?_⟩
      refine wa_cons ?_
      refine wx_call ?_
      refine wa_io rfl ?_
      refine wa_nil ?_
      refine rc_call _ _ _ ⟨r4.2, rfl, rfl⟩ ⟨⟨_, rfl⟩, trivial⟩ (show List.Nodup ([0] : List Nat) by decide) rfl (.inr fun _ z => by first | exact noerr_ne z | exact (nomatch z)) fun r6 _ => ?_
      refine ⟨_, rfl, ?_⟩
      refine wa_nil ?_
      refine ⟨[yStr _law_x, yStr s1, yInt r6.1], rfl, show 3 ≤ 1000 by decide, ?_⟩
      exact ⟨_, rfl, rfl, (by first | trivial | exact ⟨rfl, trivial⟩ | exact ⟨rfl, rfl, trivial⟩)⟩
def pre__law_theory (K : PySem.W.Frag) (A : Nat → Addr) : List Ar → Cl → Prop := fun as d => ∃ (_law_source_here : (List Int)), as = [.io ((wLst K yInt) _law_source_here)] ∧ d = ⟨(((List Str) × (List (Str × Str × Int))) × (List Int)), f__law_theory _law_source_here, fun r => .val ((yPr K (yTup K yStr) (yTup K (yTr K yStr yStr yInt))) r.1), fun r => [(wLst K yInt) r.2]⟩
theorem ok__law_theory (T : Txt P K mg A D) : FnOk P w K mg base CX0 4 (A 18) (D 18) ["_law_source_here"] (spM A (pre__law_theory K A)) := by
  refine T.F__law_theory.ok sc__law_theory (fun vs H Q E h => ?_) (fun cdv A' outer s H vs Q E hr h => ?_)
  · exact spM_len h fun as d hp => by obtain ⟨_law_source_here, rfl, rfl⟩ := hp; rfl
  · have hu := hu_of hr
    have G__law_some : FnOk P w K mg base CX0 2 (A 15) (D 15) ["_law_source_here", "_law_names", "_law_most"] (spM A (pre__law_some K A)) := ok__law_some T
    have G__law_draw : FnOk P w K mg base CX0 1 (A 14) (D 14) ["_law_source_here", "_law_limit"] (spM A (pre__law_draw K A)) := ok__law_draw T
    have G__law_constraint : FnOk P w K mg base CX0 3 (A 17) (D 17) ["_law_source_here", "_law_names"] (spM A (pre__law_constraint K A)) := ok__law_constraint T
    refine ⟨_, (pss_cons (ps_set (i := 1) sc__law_theory.nd rfl (Or.inl rfl) (pe_lst (pa_cons pe_str (pa_cons pe_str (pa_cons pe_str (pa_cons pe_str (pa_cons pe_str (pa_cons pe_str (pa_cons pe_str (pa_cons pe_str pa_nil))))))))))
      (pss_cons (ps_set (i := 2) sc__law_theory.nd rfl (Or.inl rfl) (pe_call G__law_some (hr.mono (by decide)) rfl T.g__law_some T.F__law_some.kp T.b__law_some .nil pass0 (pa_cons (pv 0) (pa_cons (pe_slice (sK_list (K := K) rfl) (pv 1) (po_some (pe_call G__law_draw (hr.mono (by decide)) rfl T.g__law_draw T.F__law_draw.kp T.b__law_draw .nil pass0 (pa_cons (pv 0) (pa_cons pe_int pa_nil)))) po_none) (pa_cons (pe_call G__law_draw (hr.mono (by decide)) rfl T.g__law_draw T.F__law_draw.kp T.b__law_draw .nil pass0 (pa_cons (pv 0) (pa_cons pe_int pa_nil))) pa_nil)))))
      (pss_cons (ps_set (i := 3) sc__law_theory.nd rfl (Or.inl rfl) (pe_lst pa_nil))
      (pss_cons (ps_for PassesOwn.never rfl (pi_range1 rfl T.z_range (pa_cons (pe_call G__law_draw (hr.mono (by decide)) rfl T.g__law_draw T.F__law_draw.kp T.b__law_draw .nil pass0 (pa_cons (pv 0) (pa_cons pe_int pa_nil))) pa_nil)) (pg_name (i := 4) sc__law_theory.nd rfl (Or.inl rfl))
        (pss_one (ps_expr (pe_bm PySem.F.plainAttrs_list PySem.F.slot_list_append PySem.F.type_list_append mt_append (pv 3) (pa_cons (pe_call G__law_constraint (hr.mono (by decide)) rfl T.g__law_constraint T.F__law_constraint.kp T.b__law_constraint .nil pass0 (pa_cons (pv 0) (pa_cons (pv 2) pa_nil))) pa_nil)))))
      (pss_one (ps_ret (pe_tup (pa_cons (pe_callTy (T := "tuple") (cK_tuple (K := K) rfl) (by rfl) T.z_tuple (by decide +kernel) (pa_cons (pv 2) pa_nil)) (pa_cons (pe_callTy (T := "tuple") (cK_tuple (K := K) rfl) (by rfl) T.z_tuple (by decide +kernel) (pa_cons (pv 3) pa_nil)) pa_nil))))))))), ?_⟩
    refine fn_run0 h (fun as d hp => ?_) fun as d hp => ?_
    · obtain ⟨_law_source_here, rfl, rfl⟩ := hp; simp
    · obtain ⟨_law_source_here, rfl, rfl⟩ := hp
      refine ⟨_, (show f__law_theory _law_source_here = Res.noerr _ from rfl), ?_⟩
      refine ws_seq ?_
      refine ws_ctx (Γ' := [.own true ((wLst K yInt) _law_source_here), .any, .any, .any, .any]) rfl ?_
      refine ws_setL (yLst K yStr) ?_
      refine wx_fz ?_
      refine wx_lst (K := K) ?_
      refine wa_cons ?_
      refine wx_str ?_
      refine ⟨_, rfl, ?_⟩
      refine wa_cons ?_
      refine wx_str ?_
      refine ⟨_, rfl, ?_⟩
      refine wa_cons ?_
      refine wx_str ?_
      refine ⟨_, rfl, ?_⟩
      refine wa_cons ?_
      refine wx_str ?_
      refine ⟨_, rfl, ?_⟩
      refine wa_cons ?_
      refine wx_str ?_
      refine ⟨_, rfl, ?_⟩
      refine wa_cons ?_
      refine wx_str ?_
      refine ⟨_, rfl, ?_⟩
      refine wa_cons ?_
      refine wx_str ?_
      refine ⟨_, rfl, ?_⟩
      refine wa_cons ?_
      refine wx_str ?_
      refine ⟨_, rfl, ?_⟩
      refine wa_nil ?_
      refine ⟨[yStr ("a" : Str), yStr ("a1" : Str), yStr ("b" : Str), yStr ("b.c" : Str), yStr ("c" : Str), yStr ("d" : Str), yStr ("x9" : Str), yStr ("zz" : Str)], rfl, show 8 ≤ 1000 by decide, ?_⟩
      refine ⟨_, rfl, ?_⟩
      refine ⟨([("a" : Str), ("a1" : Str), ("b" : Str), ("b.c" : Str), ("c" : Str), ("d" : Str), ("x9" : Str), ("zz" : Str)] : List Str), _, rfl, show 1 < 5 by decide, rfl, fun _law_pool => ?_⟩
      refine ws_seq ?_
      refine ws_ctx (Γ' := [.own true ((wLst K yInt) _law_source_here), .val ((yLst K yStr) _law_pool), .any, .any, .any]) rfl ?_
      refine ws_setL (yLst K yStr) ?_
      refine wx_fz ?_
      refine wx_call ?_
      refine wa_io rfl ?_
      refine wa_cons ?_
      refine wx_toSeqL (K := K) ?_
      refine wx_fz ?_
      refine wx_slL ?_
      refine wx_var rfl ?_
      refine ⟨_, rfl, ?_⟩
      refine wo_some ?_
      refine wx_call ?_
      refine wa_io rfl ?_
      refine wa_cons ?_
      refine wx_int ?_
      refine ⟨_, rfl, ?_⟩
      refine wa_nil ?_
      refine rc_call _ _ _ ⟨_law_source_here, (4 : Int), rfl, rfl⟩ ⟨⟨_, rfl⟩, rfl, trivial⟩ (show List.Nodup ([0] : List Nat) by decide) rfl (.inr fun _ z => by first | exact noerr_ne z | exact (nomatch z)) fun r1 _ => ?_
      refine ⟨_, rfl, ?_⟩
      refine wo_no ?_
      rw [pcut_map]
      refine ⟨_, rfl, ?_⟩
      refine ⟨_, rfl, ?_⟩
      refine ⟨_, rfl, ?_⟩
      refine wa_cons ?_
      refine wx_call ?_
      refine wa_io rfl ?_
      refine wa_cons ?_
      refine wx_int ?_
      refine ⟨_, rfl, ?_⟩
      refine wa_nil ?_
      refine rc_call _ _ _ ⟨r1.2, (5 : Int), rfl, rfl⟩ ⟨⟨_, rfl⟩, rfl, trivial⟩ (show List.Nodup ([0] : List Nat) by decide) rfl (.inr fun _ z => by first | exact noerr_ne z | exact (nomatch z)) fun r2 _ => ?_
      refine ⟨_, rfl, ?_⟩
      refine wa_nil ?_
      refine rc_call _ _ _ ⟨r2.2, (pcut _law_pool (some r1.1) none), r2.1, rfl, rfl⟩ ⟨⟨_, rfl⟩, rfl, rfl, trivial⟩ (show List.Nodup ([0] : List Nat) by decide) rfl (.inr fun _ z => by first | exact noerr_ne z | exact (nomatch z)) fun r3 _ => ?_
      refine ⟨_, rfl, ?_⟩
      refine ⟨r3.1, _, rfl, show 2 < 5 by decide, rfl, fun _law_names => ?_⟩
      refine ws_seq ?_
      refine ws_ctx (Γ' := [.own true ((wLst K yInt) r3.2), .val ((yLst K yStr) _law_pool), .val ((yLst K yStr) _law_names), .any, .any]) rfl ?_
      refine ws_setO (wLst K (yTr K yStr yStr yInt)) ?_
      refine wx_lst (K := K) ?_
      refine wa_nil ?_
      refine ⟨[], rfl, show 0 ≤ 1000 by decide, ?_⟩
      refine ⟨([] : List (Str × Str × Int)), _, rfl, show 3 < 5 by decide, rfl, fun _law_constraints => ?_⟩
      refine ws_seq ?_
      refine ws_ctx (Γ' := [.own true ((wLst K yInt) r3.2), .val ((yLst K yStr) _law_pool), .val ((yLst K yStr) _law_names), .own false ((wLst K (yTr K yStr yStr yInt)) _law_constraints), .any]) rfl ?_
      refine ws_for (μ := ((List Int) × (List (Str × Str × Int)))) yInt ?_
      refine wi_rng1 ?_
      refine wa_cons ?_
      refine wx_call ?_
      refine wa_io rfl ?_
      refine wa_cons ?_
      refine wx_int ?_
      refine ⟨_, rfl, ?_⟩
      refine wa_nil ?_
      refine rc_call _ _ _ ⟨r3.2, (9 : Int), rfl, rfl⟩ ⟨⟨_, rfl⟩, rfl, trivial⟩ (show List.Nodup ([0] : List Nat) by decide) rfl (.inr fun _ z => by first | exact noerr_ne z | exact (nomatch z)) fun r4 _ => ?_
      refine ⟨_, rfl, ?_⟩
      refine wa_nil ?_
      refine ⟨_, _, rfl, rfl, ?_⟩
      refine ⟨_, (fun s1 : ((List Int) × (List (Str × Str × Int))) => [.own true ((wLst K yInt) s1.1), .val ((yLst K yStr) _law_pool), .val ((yLst K yStr) _law_names), .own false ((wLst K (yTr K yStr yStr yInt)) s1.2), .any]), (rng 0 (r4.1).toNat), _, _, rfl, rfl, by walk_at "subc", fun s1 q1 => ?_, fun s1 => ?_⟩
      · refine wg_name (show 4 < 5 by decide) ?_
        refine ws_ctx (Γ' := [.own true ((wLst K yInt) s1.1), .val ((yLst K yStr) _law_pool), .val ((yLst K yStr) _law_names), .own false ((wLst K (yTr K yStr yStr yInt)) s1.2), .val (yInt q1)]) rfl ?_
        refine ws_append (yTr K yStr yStr yInt) (xs0 := s1.2) rfl ?_
        refine wx_call ?_
        refine wa_io rfl ?_
        refine wa_cons ?_
        refine wx_toSeqL (K := K) ?_
        refine wx_var rfl ?_
        refine ⟨_, rfl, ?_⟩
        refine ⟨_, rfl, ?_⟩
        refine wa_nil ?_
        refine rc_call _ _ _ ⟨s1.1, _law_names, rfl, rfl⟩ ⟨⟨_, rfl⟩, rfl, trivial⟩ (show List.Nodup ([0] : List Nat) by decide) rfl (.inr fun _ z => by first | exact noerr_ne z | exact (nomatch z)) fun r6 _ => ?_
        refine ⟨_, s1.2, r6.1, _, rfl, rfl, rfl, fun z1 => ?_⟩
        exact ⟨_, rfl, by walk_at "subc"⟩
      refine ws_ctx (Γ' := [.own true ((wLst K yInt) s1.1), .val ((yLst K yStr) _law_pool), .val ((yLst K yStr) _law_names), .own false ((wLst K (yTr K yStr yStr yInt)) s1.2), .any]) rfl ?_
      refine ws_frz 3 rfl ?_
      refine ws_ret ?_
      refine wx_tup (K := K) ?_
      refine wa_cons ?_
      refine wx_cb ?_
      refine wa_cons ?_
      refine wx_var rfl ?_
      refine ⟨_, rfl, ?_⟩
      refine wa_nil ?_
      refine rc_tuple (pLst K) ?_
      refine ⟨_, rfl, ?_⟩
      refine wa_cons ?_
      refine wx_cb ?_
      refine wa_cons ?_
      refine wx_var rfl ?_
      refine ⟨_, rfl, ?_⟩
      refine wa_nil ?_
      refine rc_tuple (pLst K) ?_
      refine ⟨_, rfl, ?_⟩
      refine wa_nil ?_
      refine ⟨[(yTup K yStr) _law_names, (yTup K (yTr K yStr yStr yInt)) s1.2], rfl, show 2 ≤ 1000 by decide, ?_⟩
      exact ⟨_, rfl, rfl, (by first | trivial | exact ⟨rfl, trivial⟩ | exact ⟨rfl, rfl, trivial⟩)⟩
def pre__law_value (K : PySem.W.Frag) (A : Nat → Addr) : List Ar → Cl → Prop := fun as d => ∃ (_law_values : (List (Str × Int))) (_law_name : Str), as = [.val ((yDct (κ := Str) yInt) _law_values), .val (yStr _law_name)] ∧ d = ⟨(Int), f__law_value _law_values _law_name, fun r => .val (yInt r), fun r => []⟩
theorem ok__law_value (T : Txt P K mg A D) : FnOk P w K mg base CX0 1 (A 19) (D 19) ["_law_values", "_law_name"] (spM A (pre__law_value K A)) := by
  refine T.F__law_value.ok sc__law_value (fun vs H Q E h => ?_) (fun cdv A' outer s H vs Q E hr h => ?_)
  · exact spM_len h fun as d hp => by obtain ⟨_law_values, _law_name, rfl, rfl⟩ := hp; rfl
  · have hu := hu_of hr
    refine ⟨_, (pss_cons (ps_if (pt_cmpR op_eq (pv 1) pe_str (nomark _))
        (pss_one (ps_ret pe_int))
        pss_nil)
      (pss_one (ps_ret (pe_dget hu (pv 0) (pv 1) (fun _ _ => rfl))))), ?_⟩
    refine fn_run0 h (fun as d hp => ?_) fun as d hp => ?_
    · obtain ⟨_law_values, _law_name, rfl, rfl⟩ := hp; simp
    · obtain ⟨_law_values, _law_name, rfl, rfl⟩ := hp
      refine ⟨_, (show f__law_value _law_values _law_name = Res.noerr _ from rfl), ?_⟩
      refine ws_seq ?_
      refine ws_ctx (Γ' := [.val ((yDct (κ := Str) yInt) _law_values), .val (yStr _law_name)]) rfl ?_
      refine ws_if ?_
      refine wt_b ?_
      refine wx_op ?_
      refine wx_var rfl ?_
      refine ⟨_, rfl, ?_⟩
      refine wx_str ?_
      refine ⟨_, rfl, ?_⟩
      refine rx_eq ?_
      refine ⟨_, rfl, ?_⟩
      refine ⟨_, _, rfl, ?_, ?_⟩
      · refine ws_ctx (Γ' := [.val ((yDct (κ := Str) yInt) _law_values), .val (yStr _law_name)]) rfl ?_
        refine ws_ret ?_
        refine wx_int ?_
        exact ⟨_, rfl, rfl, (by first | trivial | exact ⟨rfl, trivial⟩ | exact ⟨rfl, rfl, trivial⟩)⟩
      · refine ws_next ?_
        refine ws_ctx (Γ' := [.val ((yDct (κ := Str) yInt) _law_values), .val (yStr _law_name)]) rfl ?_
        refine ws_ret ?_
        refine wx_dget (t := yInt) (tk := yStr) ?_
        refine wx_var rfl ?_
        refine ⟨_law_values, rfl, ?_⟩
        refine wx_var rfl ?_
        refine ⟨_, _, rfl, rfl, fun r1 => ?_⟩
        exact ⟨_, rfl, rfl, (by first | trivial | exact ⟨rfl, trivial⟩ | exact ⟨rfl, rfl, trivial⟩)⟩
def pre__law_same (K : PySem.W.Frag) (A : Nat → Addr) : List Ar → Cl → Prop := fun as d => ∃ (_law_actual : (List (Str × Int))) (_law_expected : (List (Str × Int))), as = [.val ((yDct (κ := Str) yInt) _law_actual), .val ((yDct (κ := Str) yInt) _law_expected)] ∧ d = ⟨(Bool), f__law_same _law_actual _law_expected, fun r => .val (yBl r), fun r => []⟩
theorem ok__law_same (T : Txt P K mg A D) : FnOk P w K mg base CX0 1 (A 20) (D 20) ["_law_actual", "_law_expected"] (spM A (pre__law_same K A)) := by
  refine T.F__law_same.ok sc__law_same (fun vs H Q E h => ?_) (fun cdv A' outer s H vs Q E hr h => ?_)
  · exact spM_len h fun as d hp => by obtain ⟨_law_actual, _law_expected, rfl, rfl⟩ := hp; rfl
  · have hu := hu_of hr
    refine ⟨_, (pss_cons (ps_if (PW.pt (pw_or (pt_not (pt_val (pe_callB (id := "isinstance") (cK_isi (K := K) rfl) (by rfl) T.z_isinstance (by decide +kernel) (pa_cons (pv 0) (pa_cons (pe_bltn (v := .ty "dict") (u := .type "dict") (by rfl) T.z_dict (by decide +kernel) rfl) pa_nil))))) (pw_or1 (pt_cmpR (oP_ne (K := K) rfl hr.units) (pe_callB (id := "sorted") (call_sortedD rfl) (by rfl) T.z_sorted (by decide +kernel) (pa_cons (pv 0) pa_nil)) (pe_callB (id := "sorted") (call_sortedD rfl) (by rfl) T.z_sorted (by decide +kernel) (pa_cons (pv 1) pa_nil)) (nomark _)))))
        (pss_one (ps_ret pe_bl))
        pss_nil)
      (pss_cons (ps_or2 (ps_lock (ps_for PassesOwn.never rfl (pi_keys (pv 1)) (pg_name (i := 2) sc__law_same.nd rfl (Or.inl rfl))
        (pss_one (ps_if (PW.pt (pw_or (pt_not (pt_val (pe_callB (id := "isinstance") (cK_isi (K := K) rfl) (by rfl) T.z_isinstance (by decide +kernel) (pa_cons (pe_dget hu (pv 0) (pv 2) (fun _ _ => rfl)) (pa_cons (pe_bltn (v := .ty "int") (u := .type "int") (by rfl) T.z_int (by decide +kernel) rfl) pa_nil))))) (pw_or (pt_val (pe_callB (id := "isinstance") (cK_isi (K := K) rfl) (by rfl) T.z_isinstance (by decide +kernel) (pa_cons (pe_dget hu (pv 0) (pv 2) (fun _ _ => rfl)) (pa_cons (pe_bltn (v := .ty "bool") (u := .type "bool") (by rfl) T.z_bool (by decide +kernel) rfl) pa_nil)))) (pw_or1 (pt_cmpR op_ne (pe_dget hu (pv 0) (pv 2) (fun _ _ => rfl)) (pe_dget hu (pv 1) (pv 2) (fun _ _ => rfl)) (nomark _))))))
          (pss_one (ps_ret pe_bl))
          pss_nil))))
        (ps_for PassesOwn.never rfl (pi_keys (pv 1)) (pg_name (i := 2) sc__law_same.nd rfl (Or.inl rfl))
        (pss_one (ps_if (PW.pt (pw_or (pt_not (pt_val (pe_callB (id := "isinstance") (cK_isi (K := K) rfl) (by rfl) T.z_isinstance (by decide +kernel) (pa_cons (pe_dget hu (pv 0) (pv 2) (fun _ _ => rfl)) (pa_cons (pe_bltn (v := .ty "int") (u := .type "int") (by rfl) T.z_int (by decide +kernel) rfl) pa_nil))))) (pw_or (pt_val (pe_callB (id := "isinstance") (cK_isi (K := K) rfl) (by rfl) T.z_isinstance (by decide +kernel) (pa_cons (pe_dget hu (pv 0) (pv 2) (fun _ _ => rfl)) (pa_cons (pe_bltn (v := .ty "bool") (u := .type "bool") (by rfl) T.z_bool (by decide +kernel) rfl) pa_nil)))) (pw_or1 (pt_cmpR op_ne (pe_dget hu (pv 0) (pv 2) (fun _ _ => rfl)) (pe_dget hu (pv 1) (pv 2) (fun _ _ => rfl)) (nomark _))))))
          (pss_one (ps_ret pe_bl))
          pss_nil))))
      (pss_one (ps_ret pe_bl)))), ?_⟩
    refine fn_run0 h (fun as d hp => ?_) fun as d hp => ?_
    · obtain ⟨_law_actual, _law_expected, rfl, rfl⟩ := hp; simp
    · obtain ⟨_law_actual, _law_expected, rfl, rfl⟩ := hp
      refine ⟨_, (show f__law_same _law_actual _law_expected = Res.noerr _ from rfl), ?_⟩
      refine ws_seq ?_
      refine ws_ctx (Γ' := [.val ((yDct (κ := Str) yInt) _law_actual), .val ((yDct (κ := Str) yInt) _law_expected), .any]) rfl ?_
      refine ws_if ?_
      refine wt_orM (μ := Unit) ?_
      refine wt_not ?_
      refine wt_b ?_
      refine wx_cb ?_
      refine wa_cons ?_
      refine wx_var rfl ?_
      refine ⟨_, rfl, ?_⟩
      refine wa_cons ?_
      refine wx_c (yCls "dict") (fun _ _ => rfl) ?_
      refine ⟨_, rfl, ?_⟩
      refine wa_nil ?_
      refine rc_isi (K := K) (t := (yDct (κ := Str) yInt)) (x := _law_actual) (b := true) rfl ?_
      refine ⟨_, rfl, ?_⟩
      refine ⟨(fun s1 : Unit => [.val ((yDct (κ := Str) yInt) _law_actual), .val ((yDct (κ := Str) yInt) _law_expected), .any]), _, (), _, rfl, by walk_at "subc", fun _ => ?_, fun r3 => ?_⟩
      · refine wt_b ?_
        refine wx_op ?_
        refine wx_fz ?_
        refine wx_cb ?_
        refine wa_cons ?_
        refine wx_var rfl ?_
        refine ⟨_, rfl, ?_⟩
        refine wa_nil ?_
        refine rc_sortD (K := K) (xs := dkeys _law_actual) kpl_keysS rfl ?_
        refine ⟨_, rfl, ?_⟩
        refine ⟨_, rfl, ?_⟩
        refine wx_fz ?_
        refine wx_cb ?_
        refine wa_cons ?_
        refine wx_var rfl ?_
        refine ⟨_, rfl, ?_⟩
        refine wa_nil ?_
        refine rc_sortD (K := K) (xs := dkeys _law_expected) kpl_keysS rfl ?_
        refine ⟨_, rfl, ?_⟩
        refine ⟨_, rfl, ?_⟩
        refine rx_neD (K := K) (t := (yLst K yStr)) (x := (sortS (dkeys _law_actual))) (y := (sortS (dkeys _law_expected))) (Nat.le_of_ble_eq_true rfl) ?_
        refine ⟨_, rfl, ?_⟩
        exact ⟨_, rfl, by walk_at "subc"⟩
      refine ⟨_, _, rfl, ?_, ?_⟩
      · refine ws_ctx (Γ' := [.val ((yDct (κ := Str) yInt) _law_actual), .val ((yDct (κ := Str) yInt) _law_expected), .any]) rfl ?_
        refine ws_ret ?_
        refine wx_bl ?_
        exact ⟨_, rfl, rfl, (by first | trivial | exact ⟨rfl, trivial⟩ | exact ⟨rfl, rfl, trivial⟩)⟩
      · refine ws_next ?_
        refine ws_seq ?_
        refine ws_ctx (Γ' := [.val ((yDct (κ := Str) yInt) _law_actual), .val ((yDct (κ := Str) yInt) _law_expected), .any]) rfl ?_
        refine ws_forDF (t := yInt) (tk := yStr) (fun s2 : Unit => [.val ((yDct (κ := Str) yInt) _law_actual), .val ((yDct (κ := Str) yInt) _law_expected), .any]) _law_expected (by intros; rfl) rfl rfl (by walk_at "subc") (fun s2 q1 => ?_) fun s2 => ?_
        · refine wg_name (show 2 < 3 by decide) ?_
          refine ws_ctx (Γ' := [.val ((yDct (κ := Str) yInt) _law_actual), .val ((yDct (κ := Str) yInt) _law_expected), .val (yStr q1)]) rfl ?_
          refine ws_if ?_
          refine wt_orM (μ := Unit) ?_
          refine wt_not ?_
          refine wt_b ?_
          refine wx_cb ?_
          refine wa_cons ?_
          refine wx_dget (t := yInt) (tk := yStr) ?_
          refine wx_var rfl ?_
          refine ⟨_law_actual, rfl, ?_⟩
          refine wx_var rfl ?_
          refine ⟨_, _, rfl, rfl, fun r4 => ?_⟩
          refine ⟨_, rfl, ?_⟩
          refine wa_cons ?_
          refine wx_c (yCls "int") (fun _ _ => rfl) ?_
          refine ⟨_, rfl, ?_⟩
          refine wa_nil ?_
          refine rc_isi (K := K) (t := yInt) (x := r4) (b := true) rfl ?_
          refine ⟨_, rfl, ?_⟩
          refine ⟨(fun s4 : Unit => [.val ((yDct (κ := Str) yInt) _law_actual), .val ((yDct (κ := Str) yInt) _law_expected), .val (yStr q1)]), _, (), _, rfl, by walk_at "subc", fun _ => ?_, fun r9 => ?_⟩
          · refine wt_orM (μ := Unit) ?_
            refine wt_b ?_
            refine wx_cb ?_
            refine wa_cons ?_
            refine wx_dget (t := yInt) (tk := yStr) ?_
            refine wx_var rfl ?_
            refine ⟨_law_actual, rfl, ?_⟩
            refine wx_var rfl ?_
            refine ⟨_, _, rfl, rfl, fun r5 => ?_⟩
            refine ⟨_, rfl, ?_⟩
            refine wa_cons ?_
            refine wx_c (yCls "bool") (fun _ _ => rfl) ?_
            refine ⟨_, rfl, ?_⟩
            refine wa_nil ?_
            refine rc_isi (K := K) (t := yInt) (x := r5) (b := false) rfl ?_
            refine ⟨_, rfl, ?_⟩
            refine ⟨(fun s3 : Unit => [.val ((yDct (κ := Str) yInt) _law_actual), .val ((yDct (κ := Str) yInt) _law_expected), .val (yStr q1)]), _, (), _, rfl, by walk_at "subc", fun _ => ?_, fun r8 => ?_⟩
            · refine wt_b ?_
              refine wx_op ?_
              refine wx_dget (t := yInt) (tk := yStr) ?_
              refine wx_var rfl ?_
              refine ⟨_law_actual, rfl, ?_⟩
              refine wx_var rfl ?_
              refine ⟨_, _, rfl, rfl, fun r6 => ?_⟩
              refine ⟨_, rfl, ?_⟩
              refine wx_dget (t := yInt) (tk := yStr) ?_
              refine wx_var rfl ?_
              refine ⟨_law_expected, rfl, ?_⟩
              refine wx_var rfl ?_
              refine ⟨_, _, rfl, rfl, fun r7 => ?_⟩
              refine ⟨_, rfl, ?_⟩
              refine rx_ne ?_
              refine ⟨_, rfl, ?_⟩
              exact ⟨_, rfl, by walk_at "subc"⟩
            exact ⟨_, rfl, by walk_at "subc"⟩
          refine ⟨_, _, rfl, ?_, ?_⟩
          · refine ws_ctx (Γ' := [.val ((yDct (κ := Str) yInt) _law_actual), .val ((yDct (κ := Str) yInt) _law_expected), .val (yStr q1)]) rfl ?_
            refine ws_ret ?_
            refine wx_bl ?_
            refine ⟨_, rfl, ?_⟩
            exact ⟨_, rfl, rfl, (by first | trivial | exact ⟨rfl, trivial⟩ | exact ⟨rfl, rfl, trivial⟩)⟩
          · refine ws_next ?_
            exact ⟨_, rfl, by walk_at "subc"⟩
        refine ws_ctx (Γ' := [.val ((yDct (κ := Str) yInt) _law_actual), .val ((yDct (κ := Str) yInt) _law_expected), .any]) rfl ?_
        refine ws_ret ?_
        refine wx_bl ?_
        exact ⟨_, rfl, rfl, (by first | trivial | exact ⟨rfl, trivial⟩ | exact ⟨rfl, rfl, trivial⟩)⟩
def pre__law_valid_right (K : PySem.W.Frag) (A : Nat → Addr) : List Ar → Cl → Prop := fun as d => ∃ (_law_source_here : (List Int)) (_law_names : (List Str)), as = [.io ((wLst K yInt) _law_source_here), .val ((yTup K yStr) _law_names)] ∧ d = ⟨(Bool × (List Int)), f__law_valid_right _law_source_here _law_names, fun r => .val (yBl r.1), fun r => [(wLst K yInt) r.2]⟩
theorem ok__law_valid_right (T : Txt P K mg A D) : FnOk P w K mg base CX0 4 (A 21) (D 21) ["_law_source_here", "_law_names"] (spM A (pre__law_valid_right K A)) := by
  refine T.F__law_valid_right.ok sc__law_valid_right (fun vs H Q E h => ?_) (fun cdv A' outer s H vs Q E hr h => ?_)
  · exact spM_len h fun as d hp => by obtain ⟨_law_source_here, _law_names, rfl, rfl⟩ := hp; rfl
  · have hu := hu_of hr
    have G__law_draw : FnOk P w K mg base CX0 1 (A 14) (D 14) ["_law_source_here", "_law_limit"] (spM A (pre__law_draw K A)) := ok__law_draw T
    have G__law_bound : FnOk P w K mg base CX0 2 (A 16) (D 16) ["_law_source_here"] (spM A (pre__law_bound K A)) := ok__law_bound T
    have G_Steps_is_valid : FnOk P w K mg base CX0 3 (A 1222) (D 1222) ["self", "names", "constraint"] (spM A (pre_Steps_is_valid K A)) := ok_Steps_is_valid T
    have G_Steps_names_in : FnOk P w K mg base CX0 1 (A 1221) (D 1221) ["self", "constraint"] (spM A (pre_Steps_names_in K A)) := ok_Steps_names_in T
    refine ⟨_, (pss_cons (ps_set (i := 2) sc__law_valid_right.nd rfl (Or.inl rfl) (pe_op (op_catS (K := K) rfl) (pe_op (op_catS (K := K) rfl) (pe_lst (pa_cons pe_str (pa_cons pe_str (pa_cons pe_str (pa_cons pe_str (pa_cons pe_str (pa_cons pe_str pa_nil))))))) (pe_callTy (T := "list") (cK_list (K := K) rfl) (by rfl) T.z_list (by decide +kernel) (pa_cons (pv 1) pa_nil))) (pe_callTy (T := "list") (cK_list (K := K) rfl) (by rfl) T.z_list (by decide +kernel) (pa_cons (pv 1) pa_nil))))
      (pss_cons (ps_set (i := 3) sc__law_valid_right.nd rfl (Or.inl rfl) (pe_ix (xK_list (K := K) rfl) (pv 2) (pe_call G__law_draw (hr.mono (by decide)) rfl T.g__law_draw T.F__law_draw.kp T.b__law_draw .nil pass0 (pa_cons (pv 0) (pa_cons (pe_callB (id := "len") (cK_len (K := K) rfl) (by rfl) T.z_len (by decide +kernel) (pa_cons (pv 2) pa_nil)) pa_nil))) (fun _ _ => rfl)))
      (pss_cons (ps_set (i := 4) sc__law_valid_right.nd rfl (Or.inl rfl) (pe_ix (xK_list (K := K) rfl) (pv 2) (pe_call G__law_draw (hr.mono (by decide)) rfl T.g__law_draw T.F__law_draw.kp T.b__law_draw .nil pass0 (pa_cons (pv 0) (pa_cons (pe_callB (id := "len") (cK_len (K := K) rfl) (by rfl) T.z_len (by decide +kernel) (pa_cons (pv 2) pa_nil)) pa_nil))) (fun _ _ => rfl)))
      (pss_cons (ps_if (pt_cmpR op_eq (pe_call G__law_draw (hr.mono (by decide)) rfl T.g__law_draw T.F__law_draw.kp T.b__law_draw .nil pass0 (pa_cons (pv 0) (pa_cons pe_int pa_nil))) pe_int (nomark _))
        (pss_one (ps_set (i := 4) sc__law_valid_right.nd rfl (Or.inl rfl) (pv 3)))
        pss_nil)
      (pss_cons (ps_set (i := 5) sc__law_valid_right.nd rfl (Or.inl rfl) (pe_and (pe_or (pe_cmpR op_eq (pv 3) pe_str (nomark _)) (pe_one (pe_cmpR (oP_in (K := K) rfl hr.units) (pv 3) (pv 1) rfl))) (pe_and (pe_or (pe_cmpR op_eq (pv 4) pe_str (nomark _)) (pe_one (pe_cmpR (oP_in (K := K) rfl hr.units) (pv 4) (pv 1) rfl))) (pe_one (pe_or (pe_cmpR op_ne (pv 3) (pv 4) (nomark _)) (pe_one (pe_cmpR op_eq (pv 3) pe_str (nomark _))))))))
      (pss_cons (ps_set (i := 6) sc__law_valid_right.nd rfl (Or.inl rfl) (pe_tup (pa_cons (pv 3) (pa_cons (pv 4) (pa_cons (pe_call G__law_bound (hr.mono (by decide)) rfl T.g__law_bound T.F__law_bound.kp T.b__law_bound .nil pass0 (pa_cons (pv 0) pa_nil)) pa_nil)))))
      (pss_cons (ps_set (i := 7) sc__law_valid_right.nd rfl (Or.inl rfl) (methO_of (pe_meth (pe_makeP T.mp_Steps rfl T.g_Steps) T.cl_Steps T.M_Steps_is_valid G_Steps_is_valid (hr.mono (by decide)) T.b_Steps_is_valid .nil pass0 (pa_cons (pv 1) (pa_cons (pv 6) pa_nil)) (ht := ht_call (by decide)))))
      (pss_cons (ps_if (PW.pt (pw_or (pt_not (pt_val (pe_callB (id := "isinstance") (cK_isi (K := K) rfl) (by rfl) T.z_isinstance (by decide +kernel) (pa_cons (pv 7) (pa_cons (pe_bltn (v := .ty "bool") (u := .type "bool") (by rfl) T.z_bool (by decide +kernel) rfl) pa_nil))))) (pw_or1 (pt_cmpR op_ne (pv 7) (pv 5) (nomark _)))))
        (pss_one (ps_ret pe_bl))
        pss_nil)
      (pss_cons (ps_if (pt_not (pt_val (pv 5)))
        (pss_one (ps_ret pe_bl))
        pss_nil)
      (pss_one (ps_ret (pe_cmpR (oP_eq (K := K) rfl hr.units) (methO_of (pe_meth (pe_makeP T.mp_Steps rfl T.g_Steps) T.cl_Steps T.M_Steps_names_in G_Steps_names_in (hr.mono (by decide)) T.b_Steps_names_in .nil pass0 (pa_cons (pv 6) pa_nil) (ht := ht_call (by decide)))) (pe_callTy (T := "tuple") (cK_tuple (K := K) rfl) (by rfl) T.z_tuple (by decide +kernel) (pa_cons (pe_lc (own := [("_law_name", 8)]) (g := gName 8)  rfl sc__law_valid_right.nd (iK_list (K := K) rfl (pe_lst (pa_cons (pv 3) (pa_cons (pv 4) pa_nil)))) (blkOk_by (N := N__law_valid_right) (sc := defScope (topS 21)) (by decide +kernel)) (fun _ _ _ _ _ => (pg_name (i := 8) sc__law_valid_right.nd rfl (Or.inl rfl))) (fun _ _ _ _ _ => (pts_one (pt_cmpR op_ne (pv 8) pe_str (nomark _)))) (fun _ _ _ _ _ => (pv 8))) pa_nil)) (nomark _))))))))))))), ?_⟩
    refine fn_run0 h (fun as d hp => ?_) fun as d hp => ?_
    · obtain ⟨_law_source_here, _law_names, rfl, rfl⟩ := hp; simp
    · obtain ⟨_law_source_here, _law_names, rfl, rfl⟩ := hp
      refine ⟨_, (show f__law_valid_right _law_source_here _law_names = Res.noerr _ from rfl), ?_⟩
      refine ws_seq ?_
      refine ws_ctx (Γ' := [.own true ((wLst K yInt) _law_source_here), .val ((yTup K yStr) _law_names), .any, .any, .any, .any, .any, .any, .any]) rfl ?_
      refine ws_setL (yLst K yStr) ?_
      refine wx_fz ?_
      refine wx_op ?_
      refine wx_fz ?_
      refine wx_op ?_
      refine wx_fz ?_
      refine wx_lst (K := K) ?_
      refine wa_cons ?_
      refine wx_str ?_
      refine ⟨_, rfl, ?_⟩
      refine wa_cons ?_
      refine wx_str ?_
      refine ⟨_, rfl, ?_⟩
      refine wa_cons ?_
      refine wx_str ?_
      refine ⟨_, rfl, ?_⟩
      refine wa_cons ?_
      refine wx_str ?_
      refine ⟨_, rfl, ?_⟩
      refine wa_cons ?_
      refine wx_str ?_
      refine ⟨_, rfl, ?_⟩
      refine wa_cons ?_
      refine wx_str ?_
      refine ⟨_, rfl, ?_⟩
      refine wa_nil ?_
      refine ⟨[yStr ("" : Str), yStr ("a" : Str), yStr ("b" : Str), yStr ("zz" : Str), yStr ("k" : Str), yStr ("x9" : Str)], rfl, show 6 ≤ 1000 by decide, ?_⟩
      refine ⟨_, rfl, ?_⟩
      refine ⟨_, rfl, ?_⟩
      refine wx_fz ?_
      refine wx_cb ?_
      refine wa_cons ?_
      refine wx_var rfl ?_
      refine ⟨_, rfl, ?_⟩
      refine wa_nil ?_
      refine rc_list (pTup K) ?_
      refine ⟨_, rfl, ?_⟩
      refine ⟨_, rfl, ?_⟩
      refine rx_catL (t := yStr) (xs := ([("" : Str), ("a" : Str), ("b" : Str), ("zz" : Str), ("k" : Str), ("x9" : Str)] : List Str)) (ys := _law_names) rfl ?_
      refine ⟨_, rfl, ?_⟩
      refine ⟨_, rfl, ?_⟩
      refine wx_fz ?_
      refine wx_cb ?_
      refine wa_cons ?_
      refine wx_var rfl ?_
      refine ⟨_, rfl, ?_⟩
      refine wa_nil ?_
      refine rc_list (pTup K) ?_
      refine ⟨_, rfl, ?_⟩
      refine ⟨_, rfl, ?_⟩
      refine rx_catL (t := yStr) (xs := (([("" : Str), ("a" : Str), ("b" : Str), ("zz" : Str), ("k" : Str), ("x9" : Str)] : List Str) ++ _law_names)) (ys := _law_names) rfl ?_
      refine ⟨_, rfl, ?_⟩
      refine ⟨((([("" : Str), ("a" : Str), ("b" : Str), ("zz" : Str), ("k" : Str), ("x9" : Str)] : List Str) ++ _law_names) ++ _law_names), _, rfl, show 2 < 9 by decide, rfl, fun _law_ends => ?_⟩
      refine ws_seq ?_
      refine ws_ctx (Γ' := [.own true ((wLst K yInt) _law_source_here), .val ((yTup K yStr) _law_names), .val ((yLst K yStr) _law_ends), .any, .any, .any, .any, .any, .any]) rfl ?_
      refine ws_setL yStr ?_
      refine wx_op ?_
      refine wx_var rfl ?_
      refine ⟨_, rfl, ?_⟩
      refine wx_call ?_
      refine wa_io rfl ?_
      refine wa_cons ?_
      refine wx_cb ?_
      refine wa_cons ?_
      refine wx_var rfl ?_
      refine ⟨_, rfl, ?_⟩
      refine wa_nil ?_
      refine rc_lenSq (pLst K) ?_
      rw [List.length_map]
      refine ⟨_, rfl, ?_⟩
      refine wa_nil ?_
      refine rc_call _ _ _ ⟨_law_source_here, (_law_ends.length : Int), rfl, rfl⟩ ⟨⟨_, rfl⟩, rfl, trivial⟩ (show List.Nodup ([0] : List Nat) by decide) rfl (.inr fun _ z => by first | exact noerr_ne z | exact (nomatch z)) fun r3 _ => ?_
      refine ⟨_, rfl, ?_⟩
      refine rx_ixLp (t := yStr) (xs := _law_ends) rfl fun r4 => ?_
      refine ⟨r4, _, rfl, show 3 < 9 by decide, rfl, fun _law_x => ?_⟩
      refine ws_seq ?_
      refine ws_ctx (Γ' := [.own true ((wLst K yInt) r3.2), .val ((yTup K yStr) _law_names), .val ((yLst K yStr) _law_ends), .val (yStr _law_x), .any, .any, .any, .any, .any]) rfl ?_
      refine ws_setL yStr ?_
      refine wx_op ?_
      refine wx_var rfl ?_
      refine ⟨_, rfl, ?_⟩
      refine wx_call ?_
      refine wa_io rfl ?_
      refine wa_cons ?_
      refine wx_cb ?_
      refine wa_cons ?_
      refine wx_var rfl ?_
      refine ⟨_, rfl, ?_⟩
      refine wa_nil ?_
      refine rc_lenSq (pLst K) ?_
      rw [List.length_map]
      refine ⟨_, rfl, ?_⟩
      refine wa_nil ?_
      refine rc_call _ _ _ ⟨r3.2, (_law_ends.length : Int), rfl, rfl⟩ ⟨⟨_, rfl⟩, rfl, trivial⟩ (show List.Nodup ([0] : List Nat) by decide) rfl (.inr fun _ z => by first | exact noerr_ne z | exact (nomatch z)) fun r5 _ => ?_
      refine ⟨_, rfl, ?_⟩
      refine rx_ixLp (t := yStr) (xs := _law_ends) rfl fun r6 => ?_
      refine ⟨r6, _, rfl, show 4 < 9 by decide, rfl, fun _law_y => ?_⟩
      refine ws_seq ?_
      refine ws_ctx (Γ' := [.own true ((wLst K yInt) r5.2), .val ((yTup K yStr) _law_names), .val ((yLst K yStr) _law_ends), .val (yStr _law_x), .val (yStr _law_y), .any, .any, .any, .any]) rfl ?_
      refine ws_blk (fun s1 : ((List Int) × Str) => [.own true ((wLst K yInt) s1.1), .val ((yTup K yStr) _law_names), .val ((yLst K yStr) _law_ends), .val (yStr _law_x), .val (yStr s1.2), .any, .any, .any, .any]) rfl ?_ ?_
      · refine ws_if ?_
        refine wt_b ?_
        refine wx_op ?_
        refine wx_call ?_
        refine wa_io rfl ?_
        refine wa_cons ?_
        refine wx_int ?_
        refine ⟨_, rfl, ?_⟩
        refine wa_nil ?_
        refine rc_call _ _ _ ⟨r5.2, (4 : Int), rfl, rfl⟩ ⟨⟨_, rfl⟩, rfl, trivial⟩ (show List.Nodup ([0] : List Nat) by decide) rfl (.inr fun _ z => by first | exact noerr_ne z | exact (nomatch z)) fun r7 _ => ?_
        refine ⟨_, rfl, ?_⟩
        refine wx_int ?_
        refine ⟨_, rfl, ?_⟩
        refine rx_eq ?_
        refine ⟨_, rfl, ?_⟩
        refine ⟨_, _, rfl, ?_, ?_⟩
        · refine ws_ctx (Γ' := [.own true ((wLst K yInt) r7.2), .val ((yTup K yStr) _law_names), .val ((yLst K yStr) _law_ends), .val (yStr _law_x), .val (yStr _law_y), .any, .any, .any, .any]) rfl ?_
          refine ws_setL yStr ?_
          refine wx_var rfl ?_
          refine ⟨_law_x, _, rfl, show 4 < 9 by decide, rfl, fun _law_y => ?_⟩
          exact ⟨_, rfl, by walk_at "subc"⟩
        · refine ws_next ?_
          exact ⟨_, rfl, by walk_at "subc"⟩
      intro s1
      refine ws_seq ?_
      refine ws_ctx (Γ' := [.own true ((wLst K yInt) s1.1), .val ((yTup K yStr) _law_names), .val ((yLst K yStr) _law_ends), .val (yStr _law_x), .val (yStr s1.2), .any, .any, .any, .any]) rfl ?_
      refine ws_setL yBl ?_
      refine wx_andV (((decide (s1.2 = ("" : Str))) || (decide (s1.2 ∈ _law_names))) && ((!decide (_law_x = s1.2)) || (decide (_law_x = ("" : Str))))) ?_
      refine wx_orV (decide (_law_x ∈ _law_names)) ?_
      refine wx_op ?_
      refine wx_var rfl ?_
      refine ⟨_, rfl, ?_⟩
      refine wx_str ?_
      refine ⟨_, rfl, ?_⟩
      refine rx_eq ?_
      refine ⟨_, rfl, fun _ => ?_, ?_⟩
      · refine wx_op ?_
        refine wx_var rfl ?_
        refine ⟨_, rfl, ?_⟩
        refine wx_var rfl ?_
        refine ⟨_, rfl, ?_⟩
        refine rx_inD (K := K) (t := yStr) (x := _law_x) (ys := _law_names) (pTup K) (Nat.le_of_ble_eq_true rfl) ?_
        exact ⟨rfl, rfl, rfl⟩
      refine ⟨_, rfl, fun _ => ?_, ?_⟩
      · refine wx_andV ((!decide (_law_x = s1.2)) || (decide (_law_x = ("" : Str)))) ?_
        refine wx_orV (decide (s1.2 ∈ _law_names)) ?_
        refine wx_op ?_
        refine wx_var rfl ?_
        refine ⟨_, rfl, ?_⟩
        refine wx_str ?_
        refine ⟨_, rfl, ?_⟩
        refine rx_eq ?_
        refine ⟨_, rfl, fun _ => ?_, ?_⟩
        · refine wx_op ?_
          refine wx_var rfl ?_
          refine ⟨_, rfl, ?_⟩
          refine wx_var rfl ?_
          refine ⟨_, rfl, ?_⟩
          refine rx_inD (K := K) (t := yStr) (x := s1.2) (ys := _law_names) (pTup K) (Nat.le_of_ble_eq_true rfl) ?_
          exact ⟨rfl, rfl, rfl⟩
        refine ⟨_, rfl, fun _ => ?_, ?_⟩
        · refine wx_orV (decide (_law_x = ("" : Str))) ?_
          refine wx_op ?_
          refine wx_var rfl ?_
          refine ⟨_, rfl, ?_⟩
          refine wx_var rfl ?_
          refine ⟨_, rfl, ?_⟩
          refine rx_ne ?_
          refine ⟨_, rfl, fun _ => ?_, ?_⟩
          · refine wx_op ?_
            refine wx_var rfl ?_
            refine ⟨_, rfl, ?_⟩
            refine wx_str ?_
            refine ⟨_, rfl, ?_⟩
            refine rx_eq ?_
            exact ⟨rfl, rfl, rfl⟩
          exact ⟨rfl, rfl, rfl⟩
        exact ⟨rfl, rfl, rfl⟩
      refine ⟨(((decide (_law_x = ("" : Str))) || (decide (_law_x ∈ _law_names))) && (((decide (s1.2 = ("" : Str))) || (decide (s1.2 ∈ _law_names))) && ((!decide (_law_x = s1.2)) || (decide (_law_x = ("" : Str)))))), _, rfl, show 5 < 9 by decide, rfl, fun _law_expected => ?_⟩
      refine ws_seq ?_
      refine ws_ctx (Γ' := [.own true ((wLst K yInt) s1.1), .val ((yTup K yStr) _law_names), .val ((yLst K yStr) _law_ends), .val (yStr _law_x), .val (yStr s1.2), .val (yBl _law_expected), .any, .any, .any]) rfl ?_
      refine ws_setL (yTr K yStr yStr yInt) ?_
      refine wx_tup (K := K) ?_
      refine wa_cons ?_
      refine wx_var rfl ?_
      refine ⟨_, rfl, ?_⟩
      refine wa_cons ?_
      refine wx_var rfl ?_
      refine ⟨_, rfl, ?_⟩
      refine wa_cons ?_
      refine wx_call ?_
      refine wa_io rfl ?_
      refine wa_nil ?_
      refine rc_call _ _ _ ⟨s1.1, rfl, rfl⟩ ⟨⟨_, rfl⟩, trivial⟩ (show List.Nodup ([0] : List Nat) by decide) rfl (.inr fun _ z => by first | exact noerr_ne z | exact (nomatch z)) fun r8 _ => ?_
      refine ⟨_, rfl, ?_⟩
      refine wa_nil ?_
      refine ⟨[yStr _law_x, yStr s1.2, yInt r8.1], rfl, show 3 ≤ 1000 by decide, ?_⟩
      refine ⟨(_law_x, s1.2, r8.1), _, rfl, show 6 < 9 by decide, rfl, fun _law_constraint_here => ?_⟩
      refine ws_seq ?_
      refine ws_ctx (Γ' := [.own true ((wLst K yInt) r8.2), .val ((yTup K yStr) _law_names), .val ((yLst K yStr) _law_ends), .val (yStr _law_x), .val (yStr s1.2), .val (yBl _law_expected), .val ((yTr K yStr yStr yInt) _law_constraint_here), .any, .any]) rfl ?_
      refine ws_setL yBl ?_
      refine wx_meth ?_
      refine wx_makeP ?_
      refine ⟨_, rfl, rfl, ?_⟩
      refine wa_cons ?_
      refine wx_var rfl ?_
      refine ⟨_, rfl, ?_⟩
      refine wa_cons ?_
      refine wx_var rfl ?_
      refine ⟨_, rfl, ?_⟩
      refine wa_nil ?_
      refine rc_call _ _ _ ⟨(), _law_names, _law_constraint_here, rfl, rfl⟩ ⟨rfl, rfl, rfl, trivial⟩ (show List.Nodup ([] : List Nat) by decide) rfl (.inr fun _ z => by first | exact noerr_ne z | exact (nomatch z)) fun r9 _ => ?_
      refine ⟨r9, _, rfl, show 7 < 9 by decide, rfl, fun _law_actual => ?_⟩
      refine ws_seq ?_
      refine ws_ctx (Γ' := [.own true ((wLst K yInt) r8.2), .val ((yTup K yStr) _law_names), .val ((yLst K yStr) _law_ends), .val (yStr _law_x), .val (yStr s1.2), .val (yBl _law_expected), .val ((yTr K yStr yStr yInt) _law_constraint_here), .val (yBl _law_actual), .any]) rfl ?_
      refine ws_if ?_
      refine wt_or (!decide (_law_actual = _law_expected)) ?_
      refine wt_not ?_
      refine wt_b ?_
      refine wx_cb ?_
      refine wa_cons ?_
      refine wx_var rfl ?_
      refine ⟨_, rfl, ?_⟩
      refine wa_cons ?_
      refine wx_c (yCls "bool") (fun _ _ => rfl) ?_
      refine ⟨_, rfl, ?_⟩
      refine wa_nil ?_
      refine rc_isi (K := K) (t := yBl) (x := _law_actual) (b := true) rfl ?_
      refine ⟨_, rfl, ?_⟩
      refine ⟨fun _ => ?_, ?_⟩
      · refine wt_b ?_
        refine wx_op ?_
        refine wx_var rfl ?_
        refine ⟨_, rfl, ?_⟩
        refine wx_var rfl ?_
        refine ⟨_, rfl, ?_⟩
        refine rx_ne ?_
        refine ⟨_, rfl, ?_⟩
        exact ⟨rfl, rfl, rfl⟩
      refine ⟨_, _, rfl, ?_, ?_⟩
      · refine ws_ctx (Γ' := [.own true ((wLst K yInt) r8.2), .val ((yTup K yStr) _law_names), .val ((yLst K yStr) _law_ends), .val (yStr _law_x), .val (yStr s1.2), .val (yBl _law_expected), .val ((yTr K yStr yStr yInt) _law_constraint_here), .val (yBl _law_actual), .any]) rfl ?_
        refine ws_ret ?_
        refine wx_bl ?_
        exact ⟨_, rfl, rfl, (by first | trivial | exact ⟨rfl, trivial⟩ | exact ⟨rfl, rfl, trivial⟩)⟩
      · refine ws_next ?_
        refine ws_seq ?_
        refine ws_ctx (Γ' := [.own true ((wLst K yInt) r8.2), .val ((yTup K yStr) _law_names), .val ((yLst K yStr) _law_ends), .val (yStr _law_x), .val (yStr s1.2), .val (yBl _law_expected), .val ((yTr K yStr yStr yInt) _law_constraint_here), .val (yBl _law_actual), .any]) rfl ?_
        refine ws_if ?_
        refine wt_not ?_
        refine wt_b ?_
        refine wx_var rfl ?_
        refine ⟨_, rfl, ?_⟩
        refine ⟨_, _, rfl, ?_, ?_⟩
        · refine ws_ctx (Γ' := [.own true ((wLst K yInt) r8.2), .val ((yTup K yStr) _law_names), .val ((yLst K yStr) _law_ends), .val (yStr _law_x), .val (yStr s1.2), .val (yBl _law_expected), .val ((yTr K yStr yStr yInt) _law_constraint_here), .val (yBl _law_actual), .any]) rfl ?_
          refine ws_ret ?_
          refine wx_bl ?_
          exact ⟨_, rfl, rfl, (by first | trivial | exact ⟨rfl, trivial⟩ | exact ⟨rfl, rfl, trivial⟩)⟩
        · refine ws_next ?_
          refine ws_ctx (Γ' := [.own true ((wLst K yInt) r8.2), .val ((yTup K yStr) _law_names), .val ((yLst K yStr) _law_ends), .val (yStr _law_x), .val (yStr s1.2), .val (yBl _law_expected), .val ((yTr K yStr yStr yInt) _law_constraint_here), .val (yBl _law_actual), .any]) rfl ?_
          refine ws_ret ?_
          refine wx_op ?_
          refine wx_meth ?_
          refine wx_makeP ?_
          refine ⟨_, rfl, rfl, ?_⟩
          refine wa_cons ?_
          refine wx_var rfl ?_
          refine ⟨_, rfl, ?_⟩
          refine wa_nil ?_
          refine rc_callP _ _ (f_Steps_names_in () _law_constraint_here) ⟨(), _law_constraint_here, rfl, rfl⟩ ⟨rfl, rfl, trivial⟩ (show List.Nodup ([] : List Nat) by decide) rfl ?_
          refine ⟨_, rfl, ?_⟩
          refine wx_cb ?_
          refine wa_cons ?_
          refine wx_fz ?_
          refine wx_lc (K := K) yStr yStr (fun q1 => (!decide (q1 = ("" : Str)))) (fun q1 => q1) (gk_name (by decide)) ?_
          refine wi_list ?_
          refine wx_fz ?_
          refine wx_lst (K := K) ?_
          refine wa_cons ?_
          refine wx_var rfl ?_
          refine ⟨_, rfl, ?_⟩
          refine wa_cons ?_
          refine wx_var rfl ?_
          refine ⟨_, rfl, ?_⟩
          refine wa_nil ?_
          refine ⟨[yStr _law_x, yStr s1.2], rfl, show 2 ≤ 1000 by decide, ?_⟩
          refine ⟨_, rfl, ?_⟩
          refine ⟨_, rfl, ?_⟩
          refine ⟨([_law_x, s1.2] : List Str), rfl, fun q1 => ?_, ?_⟩
          · refine wg_ctx (Γ' := [.any, .val ((yTup K yStr) _law_names), .val ((yLst K yStr) _law_ends), .val (yStr _law_x), .val (yStr s1.2), .val (yBl _law_expected), .val ((yTr K yStr yStr yInt) _law_constraint_here), .val (yBl _law_actual), .any]) rfl ?_
            refine wg_name (show 8 < 9 by decide) ?_
            refine wt_b ?_
            refine wx_op ?_
            refine wx_var rfl ?_
            refine ⟨_, rfl, ?_⟩
            refine wx_str ?_
            refine ⟨_, rfl, ?_⟩
            refine rx_ne ?_
            refine ⟨_, rfl, ?_⟩
            refine ⟨rfl, fun _ => ?_⟩
            refine wx_var rfl ?_
            exact rfl
          refine ⟨_, rfl, ?_⟩
          refine ⟨_, rfl, ?_⟩
          refine wa_nil ?_
          refine rc_tuple (pLst K) ?_
          refine ⟨_, rfl, ?_⟩
          refine rx_eqD (K := K) (t := (yTup K yStr)) (x := (f_Steps_names_in () _law_constraint_here)) (y := ((([_law_x, s1.2] : List Str).filter fun q1 => (!decide (q1 = ("" : Str)))).map fun q1 => q1)) (Nat.le_of_ble_eq_true rfl) ?_
          exact ⟨_, rfl, rfl, (by first | trivial | exact ⟨rfl, trivial⟩ | exact ⟨rfl, rfl, trivial⟩)⟩
def pre__law_holds_right (K : PySem.W.Frag) (A : Nat → Addr) : List Ar → Cl → Prop := fun as d => ∃ (_law_source_here : (List Int)) (_law_names : (List Str)), as = [.io ((wLst K yInt) _law_source_here), .val ((yTup K yStr) _law_names)] ∧ d = ⟨(Bool × (List Int)), f__law_holds_right _law_source_here _law_names, fun r => .val (yBl r.1), fun r => [(wLst K yInt) r.2]⟩
theorem ok__law_holds_right (T : Txt P K mg A D) : FnOk P w K mg base CX0 4 (A 22) (D 22) ["_law_source_here", "_law_names"] (spM A (pre__law_holds_right K A)) := by
  refine T.F__law_holds_right.ok sc__law_holds_right (fun vs H Q E h => ?_) (fun cdv A' outer s H vs Q E hr h => ?_)
  · exact spM_len h fun as d hp => by obtain ⟨_law_source_here, _law_names, rfl, rfl⟩ := hp; rfl
  · have hu := hu_of hr
    have G__law_draw : FnOk P w K mg base CX0 1 (A 14) (D 14) ["_law_source_here", "_law_limit"] (spM A (pre__law_draw K A)) := ok__law_draw T
    have G__law_constraint : FnOk P w K mg base CX0 3 (A 17) (D 17) ["_law_source_here", "_law_names"] (spM A (pre__law_constraint K A)) := ok__law_constraint T
    have G__law_value : FnOk P w K mg base CX0 1 (A 19) (D 19) ["_law_values", "_law_name"] (spM A (pre__law_value K A)) := ok__law_value T
    have G_Steps_holds : FnOk P w K mg base CX0 2 (A 1223) (D 1223) ["self", "constraint", "assignment"] (spM A (pre_Steps_holds K A)) := ok_Steps_holds T
    refine ⟨_, (pss_cons (ps_set (i := 2) sc__law_holds_right.nd rfl (Or.inr rfl) pe_dnewK)
      (pss_cons (ps_for PassesOwn.never rfl (iK_tup (K := K) rfl (pv 1)) (pg_name (i := 3) sc__law_holds_right.nd rfl (Or.inl rfl))
        (pss_one (ps_dput hu (pv 2) (pv 3) (pe_op op_sub (pe_call G__law_draw (hr.mono (by decide)) rfl T.g__law_draw T.F__law_draw.kp T.b__law_draw .nil pass0 (pa_cons (pv 0) (pa_cons pe_int pa_nil))) pe_int) rfl)))
      (pss_cons (ps_setLc (i := 4) (own := [("_law_name", 3)]) (g := gName 3) (tt := tYes) rfl sc__law_holds_right.nd rfl rfl (sw_true rfl rfl rfl (by decide +kernel))  (iK_list (K := K) rfl (pe_callB (id := "sorted") (call_sortedD rfl) (by rfl) T.z_sorted (by decide +kernel) (pa_cons (pv 2) pa_nil))) (blkOk_by (N := N__law_holds_right) (sc := defScope (topS 22)) (by decide +kernel)) (fun _ _ _ _ _ => (pg_name (i := 3) sc__law_holds_right.nd rfl (Or.inl rfl))) (fun _ _ _ _ _ => pts_nil) (fun _ _ _ _ _ => (pe_tup (pa_cons (pv 3) (pa_cons (pe_dget hu (pv 2) (pv 3) (fun _ _ => rfl)) pa_nil)))))
      (pss_cons (ps_set (i := 5) sc__law_holds_right.nd rfl (Or.inl rfl) (pe_ix (xK_tup (K := K) rfl) (pe_call G__law_constraint (hr.mono (by decide)) rfl T.g__law_constraint T.F__law_constraint.kp T.b__law_constraint .nil pass0 (pa_cons (pv 0) (pa_cons (pv 1) pa_nil))) pe_int (fun _ _ => rfl)))
      (pss_cons (ps_set (i := 6) sc__law_holds_right.nd rfl (Or.inl rfl) (pe_ix (xK_tup (K := K) rfl) (pe_call G__law_constraint (hr.mono (by decide)) rfl T.g__law_constraint T.F__law_constraint.kp T.b__law_constraint .nil pass0 (pa_cons (pv 0) (pa_cons (pv 1) pa_nil))) pe_int (fun _ _ => rfl)))
      (pss_cons (ps_if (pt_cmpR op_eq (pv 5) (pv 6) (nomark _))
        (pss_cons (ps_set (i := 5) sc__law_holds_right.nd rfl (Or.inl rfl) pe_str)
        (pss_one (ps_set (i := 6) sc__law_holds_right.nd rfl (Or.inl rfl) pe_str)))
        pss_nil)
      (pss_cons (ps_set (i := 7) sc__law_holds_right.nd rfl (Or.inl rfl) (pe_op op_sub (pe_call G__law_value (hr.mono (by decide)) rfl T.g__law_value T.F__law_value.kp T.b__law_value .nil pass0 (pa_cons (pv 2) (pa_cons (pv 5) pa_nil))) (pe_call G__law_value (hr.mono (by decide)) rfl T.g__law_value T.F__law_value.kp T.b__law_value .nil pass0 (pa_cons (pv 2) (pa_cons (pv 6) pa_nil)))))
      (pss_cons (ps_for PassesOwn.never rfl (pi_range1 rfl T.z_range (pa_cons pe_int pa_nil)) (pg_name (i := 8) sc__law_holds_right.nd rfl (Or.inl rfl))
        (pss_cons (ps_set (i := 9) sc__law_holds_right.nd rfl (Or.inl rfl) (methO_of (pe_meth (pe_makeP T.mp_Steps rfl T.g_Steps) T.cl_Steps T.M_Steps_holds G_Steps_holds (hr.mono (by decide)) T.b_Steps_holds .nil pass0 (pa_cons (pe_tup (pa_cons (pv 5) (pa_cons (pv 6) (pa_cons (pe_op op_sub (pe_op op_add (pv 7) (pv 8)) pe_int) pa_nil)))) (pa_cons (pv 2) pa_nil)) (ht := ht_call (by decide)))))
        (pss_one (ps_if (PW.pt (pw_or (pt_not (pt_val (pe_callB (id := "isinstance") (cK_isi (K := K) rfl) (by rfl) T.z_isinstance (by decide +kernel) (pa_cons (pv 9) (pa_cons (pe_bltn (v := .ty "bool") (u := .type "bool") (by rfl) T.z_bool (by decide +kernel) rfl) pa_nil))))) (pw_or1 (pt_cmpR op_ne (pv 9) (pe_cmpR op_gt (pv 8) pe_int (nomark _)) (nomark _)))))
          (pss_one (ps_ret pe_bl))
          pss_nil))))
      (pss_cons (ps_set (i := 9) sc__law_holds_right.nd rfl (Or.inl rfl) (methO_of (pe_meth (pe_makeP T.mp_Steps rfl T.g_Steps) T.cl_Steps T.M_Steps_holds G_Steps_holds (hr.mono (by decide)) T.b_Steps_holds .nil pass0 (pa_cons (pe_tup (pa_cons (pv 5) (pa_cons (pv 6) (pa_cons (pe_op op_sub pe_int (pv 7)) pa_nil)))) (pa_cons (pv 2) pa_nil)) (ht := ht_call (by decide)))))
      (pss_cons (ps_if (pt_cmpR op_ne (pv 9) (pe_cmpR op_le (pe_op op_mul pe_int (pv 7)) pe_int (nomark _)) (nomark _))
        (pss_one (ps_ret pe_bl))
        pss_nil)
      (pss_one (ps_ret (pe_cmpR (oP_eq (K := K) rfl hr.units) (pe_lc (own := [("_law_name", 3)]) (g := gName 3) (tt := tYes) rfl sc__law_holds_right.nd (iK_list (K := K) rfl (pe_callB (id := "sorted") (call_sortedD rfl) (by rfl) T.z_sorted (by decide +kernel) (pa_cons (pv 2) pa_nil))) (blkOk_by (N := N__law_holds_right) (sc := defScope (topS 22)) (by decide +kernel)) (fun _ _ _ _ _ => (pg_name (i := 3) sc__law_holds_right.nd rfl (Or.inl rfl))) (fun _ _ _ _ _ => pts_nil) (fun _ _ _ _ _ => (pe_tup (pa_cons (pv 3) (pa_cons (pe_dget hu (pv 2) (pv 3) (fun _ _ => rfl)) pa_nil))))) (pv 4) (nomark _)))))))))))))), ?_⟩
    refine fn_run0 h (fun as d hp => ?_) fun as d hp => ?_
    · obtain ⟨_law_source_here, _law_names, rfl, rfl⟩ := hp; simp
    · obtain ⟨_law_source_here, _law_names, rfl, rfl⟩ := hp
      refine ⟨_, (show f__law_holds_right _law_source_here _law_names = Res.noerr _ from rfl), ?_⟩
      refine ws_seq ?_
      refine ws_ctx (Γ' := [.own true ((wLst K yInt) _law_source_here), .val ((yTup K yStr) _law_names), .any, .any, .any, .any, .any, .any, .any, .any]) rfl ?_
      refine ws_setO (wDct (κ := Str) yInt) ?_
      refine wx_dnew ?_
      refine ⟨([] : (List (Str × Int))), _, rfl, show 2 < 10 by decide, rfl, fun _law_values => ?_⟩
      refine ws_seq ?_
      refine ws_ctx (Γ' := [.own true ((wLst K yInt) _law_source_here), .val ((yTup K yStr) _law_names), .own false ((wDct (κ := Str) yInt) _law_values), .any, .any, .any, .any, .any, .any, .any]) rfl ?_
      refine ws_for (μ := ((List Int) × (List (Str × Int)))) yStr ?_
      refine wi_tup ?_
      refine wx_var rfl ?_
      refine ⟨_, rfl, ?_⟩
      refine ⟨_, (fun s1 : ((List Int) × (List (Str × Int))) => [.own true ((wLst K yInt) s1.1), .val ((yTup K yStr) _law_names), .own false ((wDct (κ := Str) yInt) s1.2), .any, .any, .any, .any, .any, .any, .any]), _law_names, _, _, rfl, rfl, by walk_at "subc", fun s1 q1 => ?_, fun s1 => ?_⟩
      · refine wg_name (show 3 < 10 by decide) ?_
        refine ws_ctx (Γ' := [.own true ((wLst K yInt) s1.1), .val ((yTup K yStr) _law_names), .own false ((wDct (κ := Str) yInt) s1.2), .val (yStr q1), .any, .any, .any, .any, .any, .any]) rfl ?_
        refine ws_dput (t := yInt) (tk := yStr) ?_
        refine wx_op ?_
        refine wx_call ?_
        refine wa_io rfl ?_
        refine wa_cons ?_
        refine wx_int ?_
        refine ⟨_, rfl, ?_⟩
        refine wa_nil ?_
        refine rc_call _ _ _ ⟨s1.1, (81 : Int), rfl, rfl⟩ ⟨⟨_, rfl⟩, rfl, trivial⟩ (show List.Nodup ([0] : List Nat) by decide) rfl (.inr fun _ z => by first | exact noerr_ne z | exact (nomatch z)) fun r1 _ => ?_
        refine ⟨_, rfl, ?_⟩
        refine wx_int ?_
        refine ⟨_, rfl, ?_⟩
        refine rx_ari rfl ?_
        refine ⟨(r1.1 - (40 : Int)), rfl, ⟨_, _, rfl⟩, ?_⟩
        refine wx_var rfl ?_
        refine ⟨_, q1, _, s1.2, rfl, rfl, rfl, fun d1 => ?_⟩
        exact ⟨_, rfl, by walk_at "subc"⟩
      refine ws_seq ?_
      refine ws_ctx (Γ' := [.own true ((wLst K yInt) s1.1), .val ((yTup K yStr) _law_names), .own false ((wDct (κ := Str) yInt) s1.2), .any, .any, .any, .any, .any, .any, .any]) rfl ?_
      refine ws_frz 2 rfl ?_
      refine ws_setL (yLst K (yPr K yStr yInt)) ?_
      refine wx_fz ?_
      refine wx_lcU (K := K) yStr (yPr K yStr yInt) (gk_name (by decide)) ?_
      refine wi_list ?_
      refine wx_fz ?_
      refine wx_cb ?_
      refine wa_cons ?_
      refine wx_var rfl ?_
      refine ⟨_, rfl, ?_⟩
      refine wa_nil ?_
      refine rc_sortD (K := K) (xs := dkeys s1.2) kpl_keysS rfl ?_
      refine ⟨_, rfl, ?_⟩
      refine ⟨_, rfl, ?_⟩
      refine ⟨_, (sortS (dkeys s1.2)), _, rfl, rfl, fun q2 => ?_, fun r4 => ?_⟩
      · refine wg_ctx (Γ' := [.any, .val ((yTup K yStr) _law_names), .val ((yDct (κ := Str) yInt) s1.2), .any, .any, .any, .any, .any, .any, .any]) rfl ?_
        refine wg_name (show 3 < 10 by decide) ?_
        refine wt_yes ?_
        refine ⟨_, (if_pos rfl).symm, ?_⟩
        refine wx_tup (K := K) ?_
        refine wa_cons ?_
        refine wx_var rfl ?_
        refine ⟨_, rfl, ?_⟩
        refine wa_cons ?_
        refine wx_dget (t := yInt) (tk := yStr) ?_
        refine wx_var rfl ?_
        refine ⟨s1.2, rfl, ?_⟩
        refine wx_var rfl ?_
        refine ⟨_, _, rfl, rfl, fun r3 => ?_⟩
        refine ⟨_, rfl, ?_⟩
        refine wa_nil ?_
        refine ⟨[yStr q2, yInt r3], rfl, show 2 ≤ 1000 by decide, ?_⟩
        exact ⟨_, rfl, rfl⟩
      refine ⟨_, rfl, ?_⟩
      refine ⟨r4, _, rfl, show 4 < 10 by decide, rfl, fun _law_before => ?_⟩
      refine ws_seq ?_
      refine ws_ctx (Γ' := [.own true ((wLst K yInt) s1.1), .val ((yTup K yStr) _law_names), .val ((yDct (κ := Str) yInt) s1.2), .any, .val ((yLst K (yPr K yStr yInt)) _law_before), .any, .any, .any, .any, .any]) rfl ?_
      refine ws_setL yStr ?_
      refine wx_op ?_
      refine wx_call ?_
      refine wa_io rfl ?_
      refine wa_cons ?_
      refine wx_toSeqT (K := K) ?_
      refine wx_var rfl ?_
      refine ⟨_, rfl, ?_⟩
      refine ⟨_, rfl, ?_⟩
      refine wa_nil ?_
      refine rc_call _ _ _ ⟨s1.1, _law_names, rfl, rfl⟩ ⟨⟨_, rfl⟩, rfl, trivial⟩ (show List.Nodup ([0] : List Nat) by decide) rfl (.inr fun _ z => by first | exact noerr_ne z | exact (nomatch z)) fun r5 _ => ?_
      refine ⟨_, rfl, ?_⟩
      refine wx_int ?_
      refine ⟨_, rfl, ?_⟩
      refine rx_ixT rfl ?_
      refine ⟨r5.1.1, _, rfl, show 5 < 10 by decide, rfl, fun _law_x => ?_⟩
      refine ws_seq ?_
      refine ws_ctx (Γ' := [.own true ((wLst K yInt) r5.2), .val ((yTup K yStr) _law_names), .val ((yDct (κ := Str) yInt) s1.2), .any, .val ((yLst K (yPr K yStr yInt)) _law_before), .val (yStr _law_x), .any, .any, .any, .any]) rfl ?_
      refine ws_setL yStr ?_
      refine wx_op ?_
      refine wx_call ?_
      refine wa_io rfl ?_
      refine wa_cons ?_
      refine wx_toSeqT (K := K) ?_
      refine wx_var rfl ?_
      refine ⟨_, rfl, ?_⟩
      refine ⟨_, rfl, ?_⟩
      refine wa_nil ?_
      refine rc_call _ _ _ ⟨r5.2, _law_names, rfl, rfl⟩ ⟨⟨_, rfl⟩, rfl, trivial⟩ (show List.Nodup ([0] : List Nat) by decide) rfl (.inr fun _ z => by first | exact noerr_ne z | exact (nomatch z)) fun r6 _ => ?_
      refine ⟨_, rfl, ?_⟩
      refine wx_int ?_
      refine ⟨_, rfl, ?_⟩
      refine rx_ixT rfl ?_
      refine ⟨r6.1.2.1, _, rfl, show 6 < 10 by decide, rfl, fun _law_y => ?_⟩
      refine ws_seq ?_
      refine ws_ctx (Γ' := [.own true ((wLst K yInt) r6.2), .val ((yTup K yStr) _law_names), .val ((yDct (κ := Str) yInt) s1.2), .any, .val ((yLst K (yPr K yStr yInt)) _law_before), .val (yStr _law_x), .val (yStr _law_y), .any, .any, .any]) rfl ?_
      refine ws_blk (fun s2 : (Str × Str) => [.own true ((wLst K yInt) r6.2), .val ((yTup K yStr) _law_names), .val ((yDct (κ := Str) yInt) s1.2), .any, .val ((yLst K (yPr K yStr yInt)) _law_before), .val (yStr s2.1), .val (yStr s2.2), .any, .any, .any]) rfl ?_ ?_
      · refine ws_if ?_
        refine wt_b ?_
        refine wx_op ?_
        refine wx_var rfl ?_
        refine ⟨_, rfl, ?_⟩
        refine wx_var rfl ?_
        refine ⟨_, rfl, ?_⟩
        refine rx_eq ?_
        refine ⟨_, rfl, ?_⟩
        refine ⟨_, _, rfl, ?_, ?_⟩
        · refine ws_seq ?_
          refine ws_ctx (Γ' := [.own true ((wLst K yInt) r6.2), .val ((yTup K yStr) _law_names), .val ((yDct (κ := Str) yInt) s1.2), .any, .val ((yLst K (yPr K yStr yInt)) _law_before), .val (yStr _law_x), .val (yStr _law_y), .any, .any, .any]) rfl ?_
          refine ws_setL yStr ?_
          refine wx_str ?_
          refine ⟨("" : Str), _, rfl, show 5 < 10 by decide, rfl, fun _law_x => ?_⟩
          refine ws_ctx (Γ' := [.own true ((wLst K yInt) r6.2), .val ((yTup K yStr) _law_names), .val ((yDct (κ := Str) yInt) s1.2), .any, .val ((yLst K (yPr K yStr yInt)) _law_before), .val (yStr _law_x), .val (yStr _law_y), .any, .any, .any]) rfl ?_
          refine ws_setL yStr ?_
          refine wx_str ?_
          refine ⟨("" : Str), _, rfl, show 6 < 10 by decide, rfl, fun _law_y => ?_⟩
          exact ⟨_, rfl, by walk_at "subc"⟩
        · refine ws_next ?_
          exact ⟨_, rfl, by walk_at "subc"⟩
      intro s2
      refine ws_seq ?_
      refine ws_ctx (Γ' := [.own true ((wLst K yInt) r6.2), .val ((yTup K yStr) _law_names), .val ((yDct (κ := Str) yInt) s1.2), .any, .val ((yLst K (yPr K yStr yInt)) _law_before), .val (yStr s2.1), .val (yStr s2.2), .any, .any, .any]) rfl ?_
      refine ws_setL yInt ?_
      refine wx_op ?_
      refine wx_call ?_
      refine wa_cons ?_
      refine wx_var rfl ?_
      refine ⟨_, rfl, ?_⟩
      refine wa_cons ?_
      refine wx_var rfl ?_
      refine ⟨_, rfl, ?_⟩
      refine wa_nil ?_
      refine rc_call _ _ _ ⟨s1.2, s2.1, rfl, rfl⟩ ⟨rfl, rfl, trivial⟩ (show List.Nodup ([] : List Nat) by decide) rfl (.inr fun _ z => by first | exact noerr_ne z | exact (nomatch z)) fun r7 _ => ?_
      refine ⟨_, rfl, ?_⟩
      refine wx_call ?_
      refine wa_cons ?_
      refine wx_var rfl ?_
      refine ⟨_, rfl, ?_⟩
      refine wa_cons ?_
      refine wx_var rfl ?_
      refine ⟨_, rfl, ?_⟩
      refine wa_nil ?_
      refine rc_call _ _ _ ⟨s1.2, s2.2, rfl, rfl⟩ ⟨rfl, rfl, trivial⟩ (show List.Nodup ([] : List Nat) by decide) rfl (.inr fun _ z => by first | exact noerr_ne z | exact (nomatch z)) fun r8 _ => ?_
      refine ⟨_, rfl, ?_⟩
      refine rx_ari rfl ?_
      refine ⟨(r7 - r8), _, rfl, show 7 < 10 by decide, rfl, fun _law_difference => ?_⟩
      refine ws_seq ?_
      refine ws_ctx (Γ' := [.own true ((wLst K yInt) r6.2), .val ((yTup K yStr) _law_names), .val ((yDct (κ := Str) yInt) s1.2), .any, .val ((yLst K (yPr K yStr yInt)) _law_before), .val (yStr s2.1), .val (yStr s2.2), .val (yInt _law_difference), .any, .any]) rfl ?_
      refine ws_forF (μ := Unit) (τ := (Bool × (List Int))) yInt ?_
      refine wi_rng1 ?_
      refine wa_cons ?_
      refine wx_int ?_
      refine ⟨_, rfl, ?_⟩
      refine wa_nil ?_
      refine ⟨_, _, rfl, rfl, ?_⟩
      refine ⟨_, (fun s3 : Unit => [.own true ((wLst K yInt) r6.2), .val ((yTup K yStr) _law_names), .val ((yDct (κ := Str) yInt) s1.2), .any, .val ((yLst K (yPr K yStr yInt)) _law_before), .val (yStr s2.1), .val (yStr s2.2), .val (yInt _law_difference), .any, .any]), (rng 0 ((3 : Int)).toNat), _, _, _, rfl, rfl, by walk_at "subc", fun s3 q3 => ?_, fun s3 => ?_⟩
      · refine wg_name (show 8 < 10 by decide) ?_
        refine ws_seq ?_
        refine ws_ctx (Γ' := [.own true ((wLst K yInt) r6.2), .val ((yTup K yStr) _law_names), .val ((yDct (κ := Str) yInt) s1.2), .any, .val ((yLst K (yPr K yStr yInt)) _law_before), .val (yStr s2.1), .val (yStr s2.2), .val (yInt _law_difference), .val (yInt q3), .any]) rfl ?_
        refine ws_setL yBl ?_
        refine wx_meth ?_
        refine wx_makeP ?_
        refine ⟨_, rfl, rfl, ?_⟩
        refine wa_cons ?_
        refine wx_tup (K := K) ?_
        refine wa_cons ?_
        refine wx_var rfl ?_
        refine ⟨_, rfl, ?_⟩
        refine wa_cons ?_
        refine wx_var rfl ?_
        refine ⟨_, rfl, ?_⟩
        refine wa_cons ?_
        refine wx_op ?_
        refine wx_op ?_
        refine wx_var rfl ?_
        refine ⟨_, rfl, ?_⟩
        refine wx_var rfl ?_
        refine ⟨_, rfl, ?_⟩
        refine rx_ari rfl ?_
        refine ⟨_, rfl, ?_⟩
        refine wx_int ?_
        refine ⟨_, rfl, ?_⟩
        refine rx_ari rfl ?_
        refine ⟨_, rfl, ?_⟩
        refine wa_nil ?_
        refine ⟨[yStr s2.1, yStr s2.2, yInt ((_law_difference + q3) - (1 : Int))], rfl, show 3 ≤ 1000 by decide, ?_⟩
        refine ⟨_, rfl, ?_⟩
        refine wa_cons ?_
        refine wx_var rfl ?_
        refine ⟨_, rfl, ?_⟩
        refine wa_nil ?_
        refine rc_call _ _ _ ⟨(), (s2.1, s2.2, ((_law_difference + q3) - (1 : Int))), s1.2, rfl, rfl⟩ ⟨rfl, rfl, rfl, trivial⟩ (show List.Nodup ([] : List Nat) by decide) rfl (.inr fun _ z => by first | exact noerr_ne z | exact (nomatch z)) fun r10 _ => ?_
        refine ⟨r10, _, rfl, show 9 < 10 by decide, rfl, fun _law_actual => ?_⟩
        refine ws_ctx (Γ' := [.own true ((wLst K yInt) r6.2), .val ((yTup K yStr) _law_names), .val ((yDct (κ := Str) yInt) s1.2), .any, .val ((yLst K (yPr K yStr yInt)) _law_before), .val (yStr s2.1), .val (yStr s2.2), .val (yInt _law_difference), .val (yInt q3), .val (yBl _law_actual)]) rfl ?_
        refine ws_if ?_
        refine wt_or (!decide (_law_actual = (decide ((0 : Int) < q3)))) ?_
        refine wt_not ?_
        refine wt_b ?_
        refine wx_cb ?_
        refine wa_cons ?_
        refine wx_var rfl ?_
        refine ⟨_, rfl, ?_⟩
        refine wa_cons ?_
        refine wx_c (yCls "bool") (fun _ _ => rfl) ?_
        refine ⟨_, rfl, ?_⟩
        refine wa_nil ?_
        refine rc_isi (K := K) (t := yBl) (x := _law_actual) (b := true) rfl ?_
        refine ⟨_, rfl, ?_⟩
        refine ⟨fun _ => ?_, ?_⟩
        · refine wt_b ?_
          refine wx_op ?_
          refine wx_var rfl ?_
          refine ⟨_, rfl, ?_⟩
          refine wx_op ?_
          refine wx_var rfl ?_
          refine ⟨_, rfl, ?_⟩
          refine wx_int ?_
          refine ⟨_, rfl, ?_⟩
          refine rx_cmp rfl ?_
          refine ⟨_, rfl, ?_⟩
          refine rx_ne ?_
          refine ⟨_, rfl, ?_⟩
          exact ⟨rfl, rfl, rfl⟩
        refine ⟨_, _, rfl, ?_, ?_⟩
        · refine ws_ctx (Γ' := [.own true ((wLst K yInt) r6.2), .val ((yTup K yStr) _law_names), .val ((yDct (κ := Str) yInt) s1.2), .any, .val ((yLst K (yPr K yStr yInt)) _law_before), .val (yStr s2.1), .val (yStr s2.2), .val (yInt _law_difference), .val (yInt q3), .val (yBl _law_actual)]) rfl ?_
          refine ws_ret ?_
          refine wx_bl ?_
          refine ⟨_, rfl, ?_⟩
          exact ⟨_, rfl, rfl, (by first | trivial | exact ⟨rfl, trivial⟩ | exact ⟨rfl, rfl, trivial⟩)⟩
        · refine ws_next ?_
          exact ⟨_, rfl, by walk_at "subc"⟩
      refine ws_seq ?_
      refine ws_ctx (Γ' := [.own true ((wLst K yInt) r6.2), .val ((yTup K yStr) _law_names), .val ((yDct (κ := Str) yInt) s1.2), .any, .val ((yLst K (yPr K yStr yInt)) _law_before), .val (yStr s2.1), .val (yStr s2.2), .val (yInt _law_difference), .any, .any]) rfl ?_
      refine ws_setL yBl ?_
      refine wx_meth ?_
      refine wx_makeP ?_
      refine ⟨_, rfl, rfl, ?_⟩
      refine wa_cons ?_
      refine wx_tup (K := K) ?_
      refine wa_cons ?_
      refine wx_var rfl ?_
      refine ⟨_, rfl, ?_⟩
      refine wa_cons ?_
      refine wx_var rfl ?_
      refine ⟨_, rfl, ?_⟩
      refine wa_cons ?_
      refine wx_op ?_
      refine wx_int ?_
      refine ⟨_, rfl, ?_⟩
      refine wx_var rfl ?_
      refine ⟨_, rfl, ?_⟩
      refine rx_ari rfl ?_
      refine ⟨_, rfl, ?_⟩
      refine wa_nil ?_
      refine ⟨[yStr s2.1, yStr s2.2, yInt ((0 : Int) - _law_difference)], rfl, show 3 ≤ 1000 by decide, ?_⟩
      refine ⟨_, rfl, ?_⟩
      refine wa_cons ?_
      refine wx_var rfl ?_
      refine ⟨_, rfl, ?_⟩
      refine wa_nil ?_
      refine rc_call _ _ _ ⟨(), (s2.1, s2.2, ((0 : Int) - _law_difference)), s1.2, rfl, rfl⟩ ⟨rfl, rfl, rfl, trivial⟩ (show List.Nodup ([] : List Nat) by decide) rfl (.inr fun _ z => by first | exact noerr_ne z | exact (nomatch z)) fun r11 _ => ?_
      refine ⟨r11, _, rfl, show 9 < 10 by decide, rfl, fun _law_actual => ?_⟩
      refine ws_seq ?_
      refine ws_ctx (Γ' := [.own true ((wLst K yInt) r6.2), .val ((yTup K yStr) _law_names), .val ((yDct (κ := Str) yInt) s1.2), .any, .val ((yLst K (yPr K yStr yInt)) _law_before), .val (yStr s2.1), .val (yStr s2.2), .val (yInt _law_difference), .any, .val (yBl _law_actual)]) rfl ?_
      refine ws_if ?_
      refine wt_b ?_
      refine wx_op ?_
      refine wx_var rfl ?_
      refine ⟨_, rfl, ?_⟩
      refine wx_op ?_
      refine wx_op ?_
      refine wx_int ?_
      refine ⟨_, rfl, ?_⟩
      refine wx_var rfl ?_
      refine ⟨_, rfl, ?_⟩
      refine rx_it (f := fun i j => i * j) (.inl (by decide)) rfl ?_
      refine ⟨_, rfl, ?_⟩
      refine wx_int ?_
      refine ⟨_, rfl, ?_⟩
      refine rx_cmp rfl ?_
      refine ⟨_, rfl, ?_⟩
      refine rx_ne ?_
      refine ⟨_, rfl, ?_⟩
      refine ⟨_, _, rfl, ?_, ?_⟩
      · refine ws_ctx (Γ' := [.own true ((wLst K yInt) r6.2), .val ((yTup K yStr) _law_names), .val ((yDct (κ := Str) yInt) s1.2), .any, .val ((yLst K (yPr K yStr yInt)) _law_before), .val (yStr s2.1), .val (yStr s2.2), .val (yInt _law_difference), .any, .val (yBl _law_actual)]) rfl ?_
        refine ws_ret ?_
        refine wx_bl ?_
        exact ⟨_, rfl, rfl, (by first | trivial | exact ⟨rfl, trivial⟩ | exact ⟨rfl, rfl, trivial⟩)⟩
      · refine ws_next ?_
        refine ws_ctx (Γ' := [.own true ((wLst K yInt) r6.2), .val ((yTup K yStr) _law_names), .val ((yDct (κ := Str) yInt) s1.2), .any, .val ((yLst K (yPr K yStr yInt)) _law_before), .val (yStr s2.1), .val (yStr s2.2), .val (yInt _law_difference), .any, .val (yBl _law_actual)]) rfl ?_
        refine ws_ret ?_
        refine wx_op ?_
        refine wx_fz ?_
        refine wx_lcU (K := K) yStr (yPr K yStr yInt) (gk_name (by decide)) ?_
        refine wi_list ?_
        refine wx_fz ?_
        refine wx_cb ?_
        refine wa_cons ?_
        refine wx_var rfl ?_
        refine ⟨_, rfl, ?_⟩
        refine wa_nil ?_
        refine rc_sortD (K := K) (xs := dkeys s1.2) kpl_keysS rfl ?_
        refine ⟨_, rfl, ?_⟩
        refine ⟨_, rfl, ?_⟩
        refine ⟨_, (sortS (dkeys s1.2)), _, rfl, rfl, fun q4 => ?_, fun r14 => ?_⟩
        · refine wg_ctx (Γ' := [.any, .val ((yTup K yStr) _law_names), .val ((yDct (κ := Str) yInt) s1.2), .any, .val ((yLst K (yPr K yStr yInt)) _law_before), .val (yStr s2.1), .val (yStr s2.2), .val (yInt _law_difference), .any, .val (yBl _law_actual)]) rfl ?_
          refine wg_name (show 3 < 10 by decide) ?_
          refine wt_yes ?_
          refine ⟨_, (if_pos rfl).symm, ?_⟩
          refine wx_tup (K := K) ?_
          refine wa_cons ?_
          refine wx_var rfl ?_
          refine ⟨_, rfl, ?_⟩
          refine wa_cons ?_
          refine wx_dget (t := yInt) (tk := yStr) ?_
          refine wx_var rfl ?_
          refine ⟨s1.2, rfl, ?_⟩
          refine wx_var rfl ?_
          refine ⟨_, _, rfl, rfl, fun r13 => ?_⟩
          refine ⟨_, rfl, ?_⟩
          refine wa_nil ?_
          refine ⟨[yStr q4, yInt r13], rfl, show 2 ≤ 1000 by decide, ?_⟩
          exact ⟨_, rfl, rfl⟩
        refine ⟨_, rfl, ?_⟩
        refine ⟨_, rfl, ?_⟩
        refine wx_var rfl ?_
        refine ⟨_, rfl, ?_⟩
        refine rx_eqD (K := K) (t := (yLst K (yPr K yStr yInt))) (x := r14) (y := _law_before) (Nat.le_of_ble_eq_true rfl) ?_
        exact ⟨_, rfl, rfl, (by first | trivial | exact ⟨rfl, trivial⟩ | exact ⟨rfl, rfl, trivial⟩)⟩
def pre__law_rename_right (K : PySem.W.Frag) (A : Nat → Addr) : List Ar → Cl → Prop := fun as d => ∃ (_law_source_here : (List Int)) (_law_theory_here : ((List Str) × (List (Str × Str × Int)))), as = [.io ((wLst K yInt) _law_source_here), .val ((yPr K (yTup K yStr) (yTup K (yTr K yStr yStr yInt))) _law_theory_here)] ∧ d = ⟨(Bool × (List Int)), f__law_rename_right _law_source_here _law_theory_here, fun r => .val (yBl r.1), fun r => [(wLst K yInt) r.2]⟩
theorem ok__law_rename_right (T : Txt P K mg A D) : FnOk P w K mg base CX0 3 (A 23) (D 23) ["_law_source_here", "_law_theory_here"] (spM A (pre__law_rename_right K A)) := by
  refine T.F__law_rename_right.ok sc__law_rename_right (fun vs H Q E h => ?_) (fun cdv A' outer s H vs Q E hr h => ?_)
  · exact spM_len h fun as d hp => by obtain ⟨_law_source_here, _law_theory_here, rfl, rfl⟩ := hp; rfl
  · have hu := hu_of hr
    have G__law_some : FnOk P w K mg base CX0 2 (A 15) (D 15) ["_law_source_here", "_law_names", "_law_most"] (spM A (pre__law_some K A)) := ok__law_some T
    have G__law_draw : FnOk P w K mg base CX0 1 (A 14) (D 14) ["_law_source_here", "_law_limit"] (spM A (pre__law_draw K A)) := ok__law_draw T
    have G_Steps_rename : FnOk P w K mg base CX0 2 (A 1225) (D 1225) ["self", "theory", "table"] (spM A (pre_Steps_rename K A)) := ok_Steps_rename T
    refine ⟨_, (pss_cons (ps_set (i := 2) sc__law_rename_right.nd rfl (Or.inr rfl) (pe_call G__law_some (hr.mono (by decide)) rfl T.g__law_some T.F__law_some.kp T.b__law_some .nil pass0 (pa_cons (pv 0) (pa_cons (pe_ix (xK_tup (K := K) rfl) (pv 1) pe_int (fun _ _ => rfl)) (pa_cons pe_int pa_nil)))))
      (pss_cons (ps_set (i := 3) sc__law_rename_right.nd rfl (Or.inr rfl) (pe_lst (pa_cons pe_str (pa_cons pe_str (pa_cons pe_str (pa_cons pe_str (pa_cons pe_str (pa_cons pe_str (pa_cons pe_str (pa_cons pe_str (pa_cons pe_str (pa_cons pe_str (pa_cons pe_str pa_nil)))))))))))))
      (pss_cons (ps_set (i := 4) sc__law_rename_right.nd rfl (Or.inr rfl) (pe_call G__law_draw (hr.mono (by decide)) rfl T.g__law_draw T.F__law_draw.kp T.b__law_draw .nil pass0 (pa_cons (pv 0) (pa_cons pe_int pa_nil))))
      (pss_cons (ps_set (i := 5) sc__law_rename_right.nd rfl (Or.inr rfl) (pe_op op_add pe_int (pe_call G__law_draw (hr.mono (by decide)) rfl T.g__law_draw T.F__law_draw.kp T.b__law_draw .nil pass0 (pa_cons (pv 0) (pa_cons pe_int pa_nil)))))
      (pss_cons (ps_setLc (i := 7) (own := [("_law_k", 6)]) (g := gName 6) (tt := tYes) rfl sc__law_rename_right.nd rfl rfl (sw_true rfl rfl rfl (by decide +kernel))  (pi_range1 rfl T.z_range (pa_cons pe_int pa_nil)) (blkOk_by (N := N__law_rename_right) (sc := defScope (topS 23)) (by decide +kernel)) (fun _ _ _ _ _ => (pg_name (i := 6) sc__law_rename_right.nd rfl (Or.inl rfl))) (fun _ _ _ _ _ => pts_nil) (fun _ _ _ _ _ => (pe_ix (xK_list (K := K) rfl) (pv 3) (pe_op op_mod (pe_callTy (T := "int") call_int1 (by rfl) T.z_int (by decide +kernel) (pa_cons (pe_op op_add (pv 4) (pe_op op_mul (pv 6) (pv 5))) pa_nil)) pe_int) (fun _ _ => rfl))))
      (pss_cons (ps_setLc (i := 8) (own := [("_law_name", 14)]) (g := gName 14)  rfl sc__law_rename_right.nd rfl rfl (sw_true rfl rfl rfl (by decide +kernel))  (iK_list (K := K) rfl (pv 7)) (blkOk_by (N := N__law_rename_right) (sc := defScope (topS 23)) (by decide +kernel)) (fun _ _ _ _ _ => (pg_name (i := 14) sc__law_rename_right.nd rfl (Or.inl rfl))) (fun _ _ _ _ _ => (pts_one (pt_cmpR (oP_nin (K := K) rfl hr.units) (pv 14) (pv 2) rfl))) (fun _ _ _ _ _ => (pv 14)))
      (pss_cons (ps_set (i := 9) sc__law_rename_right.nd rfl (Or.inr rfl) pe_dnewK)
      (pss_cons (ps_setLc (i := 10) (own := [("_law_name", 14)]) (g := gName 14)  rfl sc__law_rename_right.nd rfl rfl (sw_true rfl rfl rfl (by decide +kernel))  (iK_tup (K := K) rfl (pe_ix (xK_tup (K := K) rfl) (pv 1) pe_int (fun _ _ => rfl))) (blkOk_by (N := N__law_rename_right) (sc := defScope (topS 23)) (by decide +kernel)) (fun _ _ _ _ _ => (pg_name (i := 14) sc__law_rename_right.nd rfl (Or.inl rfl))) (fun _ _ _ _ _ => (pts_one (pt_cmpR (oP_nin (K := K) rfl hr.units) (pv 14) (pv 2) rfl))) (fun _ _ _ _ _ => (pv 14)))
      (pss_cons (ps_for PassesOwn.never rfl (pi_range1 rfl T.z_range (pa_cons (pe_callB (id := "len") (cK_len (K := K) rfl) (by rfl) T.z_len (by decide +kernel) (pa_cons (pv 10) pa_nil)) pa_nil)) (pg_name (i := 6) sc__law_rename_right.nd rfl (Or.inl rfl))
        (pss_one (ps_if (pt_cmpR op_ne (pe_ix (xK_list (K := K) rfl) (pv 8) (pv 6) (fun _ _ => rfl)) (pe_ix (xK_list (K := K) rfl) (pv 10) (pv 6) (fun _ _ => rfl)) (nomark _))
          (pss_one (ps_dput hu (pv 9) (pe_ix (xK_list (K := K) rfl) (pv 10) (pv 6) (fun _ _ => rfl)) (pe_ix (xK_list (K := K) rfl) (pv 8) (pv 6) (fun _ _ => rfl)) rfl))
          pss_nil)))
      (pss_cons (ps_setLc (i := 11) (own := [("_law_name", 14)]) (g := gName 14) (tt := tYes) rfl sc__law_rename_right.nd rfl rfl (sw_true rfl rfl rfl (by decide +kernel))  (iK_list (K := K) rfl (pe_callB (id := "sorted") (call_sortedD rfl) (by rfl) T.z_sorted (by decide +kernel) (pa_cons (pv 9) pa_nil))) (blkOk_by (N := N__law_rename_right) (sc := defScope (topS 23)) (by decide +kernel)) (fun _ _ _ _ _ => (pg_name (i := 14) sc__law_rename_right.nd rfl (Or.inl rfl))) (fun _ _ _ _ _ => pts_nil) (fun _ _ _ _ _ => (pe_tup (pa_cons (pv 14) (pa_cons (pe_dget hu (pv 9) (pv 14) (fun _ _ => rfl)) pa_nil)))))
      (pss_cons (ps_set (i := 12) sc__law_rename_right.nd rfl (Or.inl rfl) (pe_callB (id := "sorted") (cK_sortedS (K := K) rfl) (by rfl) T.z_sorted (by decide +kernel) (pa_cons (pe_lc (own := [("_law_name", 14)]) (g := gName 14) (tt := tYes) rfl sc__law_rename_right.nd (iK_tup (K := K) rfl (pe_ix (xK_tup (K := K) rfl) (pv 1) pe_int (fun _ _ => rfl))) (blkOk_by (N := N__law_rename_right) (sc := defScope (topS 23)) (by decide +kernel)) (fun _ _ _ _ _ => (pg_name (i := 14) sc__law_rename_right.nd rfl (Or.inl rfl))) (fun _ _ _ _ _ => pts_nil) (fun _ _ _ _ _ => (pe_dget2 hu (pv 9) (pv 14) (pv 14) ⟨rfl, rfl, rfl, rfl⟩))) pa_nil)))
      (pss_cons (ps_setLc (i := 13) (own := [("_law_c", 15)]) (g := gName 15) (tt := tYes) rfl sc__law_rename_right.nd rfl rfl (sw_true rfl rfl rfl (by decide +kernel))  (iK_tup (K := K) rfl (pe_ix (xK_tup (K := K) rfl) (pv 1) pe_int (fun _ _ => rfl))) (blkOk_by (N := N__law_rename_right) (sc := defScope (topS 23)) (by decide +kernel)) (fun _ _ _ _ _ => (pg_name (i := 15) sc__law_rename_right.nd rfl (Or.inl rfl))) (fun _ _ _ _ _ => pts_nil) (fun _ _ _ _ _ => (pe_tup (pa_cons (pe_dget2 hu (pv 9) (pe_ix (xK_tup (K := K) rfl) (pv 15) pe_int (fun _ _ => rfl)) (pe_ix (xK_tup (K := K) rfl) (pv 15) pe_int (fun _ _ => rfl)) ⟨rfl, rfl, rfl, rfl⟩) (pa_cons (pe_dget2 hu (pv 9) (pe_ix (xK_tup (K := K) rfl) (pv 15) pe_int (fun _ _ => rfl)) (pe_ix (xK_tup (K := K) rfl) (pv 15) pe_int (fun _ _ => rfl)) ⟨rfl, rfl, rfl, rfl⟩) (pa_cons (pe_ix (xK_tup (K := K) rfl) (pv 15) pe_int (fun _ _ => rfl)) pa_nil))))))
      (pss_cons (ps_if (pt_cmpR (oP_ne (K := K) rfl hr.units) (methO_of (pe_meth (pe_makeP T.mp_Steps rfl T.g_Steps) T.cl_Steps T.M_Steps_rename G_Steps_rename (hr.mono (by decide)) T.b_Steps_rename .nil pass0 (pa_cons (pv 1) (pa_cons (pv 9) pa_nil)) (ht := ht_call (by decide)))) (pe_tup (pa_cons (pe_callTy (T := "tuple") (cK_tuple (K := K) rfl) (by rfl) T.z_tuple (by decide +kernel) (pa_cons (pv 12) pa_nil)) (pa_cons (pe_callTy (T := "tuple") (cK_tuple (K := K) rfl) (by rfl) T.z_tuple (by decide +kernel) (pa_cons (pv 13) pa_nil)) pa_nil))) (nomark _))
        (pss_one (ps_ret pe_bl))
        pss_nil)
      (pss_one (ps_ret (pe_cmpR (oP_eq (K := K) rfl hr.units) (pe_lc (own := [("_law_name", 14)]) (g := gName 14) (tt := tYes) rfl sc__law_rename_right.nd (iK_list (K := K) rfl (pe_callB (id := "sorted") (call_sortedD rfl) (by rfl) T.z_sorted (by decide +kernel) (pa_cons (pv 9) pa_nil))) (blkOk_by (N := N__law_rename_right) (sc := defScope (topS 23)) (by decide +kernel)) (fun _ _ _ _ _ => (pg_name (i := 14) sc__law_rename_right.nd rfl (Or.inl rfl))) (fun _ _ _ _ _ => pts_nil) (fun _ _ _ _ _ => (pe_tup (pa_cons (pv 14) (pa_cons (pe_dget hu (pv 9) (pv 14) (fun _ _ => rfl)) pa_nil))))) (pv 11) (nomark _))))))))))))))))), ?_⟩
    refine fn_run0 h (fun as d hp => ?_) fun as d hp => ?_
    · obtain ⟨_law_source_here, _law_theory_here, rfl, rfl⟩ := hp; simp
    · obtain ⟨_law_source_here, _law_theory_here, rfl, rfl⟩ := hp
      refine ⟨_, (show f__law_rename_right _law_source_here _law_theory_here = Res.noerr _ from rfl), ?_⟩
      refine ws_seq ?_
      refine ws_ctx (Γ' := [.own true ((wLst K yInt) _law_source_here), .val ((yPr K (yTup K yStr) (yTup K (yTr K yStr yStr yInt))) _law_theory_here), .any, .any, .any, .any, .any, .any, .any, .any, .any, .any, .any, .any, .any, .any]) rfl ?_
      refine ws_setL (yLst K yStr) ?_
      refine wx_fz ?_
      refine wx_call ?_
      refine wa_io rfl ?_
      refine wa_cons ?_
      refine wx_toSeqT (K := K) ?_
      refine wx_op ?_
      refine wx_var rfl ?_
      refine ⟨_, rfl, ?_⟩
      refine wx_int ?_
      refine ⟨_, rfl, ?_⟩
      refine rx_ixT rfl ?_
      refine ⟨_, rfl, ?_⟩
      refine ⟨_, rfl, ?_⟩
      refine wa_cons ?_
      refine wx_int ?_
      refine ⟨_, rfl, ?_⟩
      refine wa_nil ?_
      refine rc_call _ _ _ ⟨_law_source_here, _law_theory_here.1, (2 : Int), rfl, rfl⟩ ⟨⟨_, rfl⟩, rfl, rfl, trivial⟩ (show List.Nodup ([0] : List Nat) by decide) rfl (.inr fun _ z => by first | exact noerr_ne z | exact (nomatch z)) fun r1 _ => ?_
      refine ⟨_, rfl, ?_⟩
      refine ⟨r1.1, _, rfl, show 2 < 16 by decide, rfl, fun _law_kept => ?_⟩
      refine ws_seq ?_
      refine ws_ctx (Γ' := [.own true ((wLst K yInt) r1.2), .val ((yPr K (yTup K yStr) (yTup K (yTr K yStr yStr yInt))) _law_theory_here), .val ((yLst K yStr) _law_kept), .any, .any, .any, .any, .any, .any, .any, .any, .any, .any, .any, .any, .any]) rfl ?_
      refine ws_setL (yLst K yStr) ?_
      refine wx_fz ?_
      refine wx_lst (K := K) ?_
      refine wa_cons ?_
      refine wx_str ?_
      refine ⟨_, rfl, ?_⟩
      refine wa_cons ?_
      refine wx_str ?_
      refine ⟨_, rfl, ?_⟩
      refine wa_cons ?_
      refine wx_str ?_
      refine ⟨_, rfl, ?_⟩
      refine wa_cons ?_
      refine wx_str ?_
      refine ⟨_, rfl, ?_⟩
      refine wa_cons ?_
      refine wx_str ?_
      refine ⟨_, rfl, ?_⟩
      refine wa_cons ?_
      refine wx_str ?_
      refine ⟨_, rfl, ?_⟩
      refine wa_cons ?_
      refine wx_str ?_
      refine ⟨_, rfl, ?_⟩
      refine wa_cons ?_
      refine wx_str ?_
      refine ⟨_, rfl, ?_⟩
      refine wa_cons ?_
      refine wx_str ?_
      refine ⟨_, rfl, ?_⟩
      refine wa_cons ?_
      refine wx_str ?_
      refine ⟨_, rfl, ?_⟩
      refine wa_cons ?_
      refine wx_str ?_
      refine ⟨_, rfl, ?_⟩
      refine wa_nil ?_
      refine ⟨[yStr ("a" : Str), yStr ("b" : Str), yStr ("b.c" : Str), yStr ("c1" : Str), yStr ("d" : Str), yStr ("k" : Str), yStr ("n.m" : Str), yStr ("q" : Str), yStr ("x9" : Str), yStr ("y" : Str), yStr ("zz" : Str)], rfl, show 11 ≤ 1000 by decide, ?_⟩
      refine ⟨_, rfl, ?_⟩
      refine ⟨([("a" : Str), ("b" : Str), ("b.c" : Str), ("c1" : Str), ("d" : Str), ("k" : Str), ("n.m" : Str), ("q" : Str), ("x9" : Str), ("y" : Str), ("zz" : Str)] : List Str), _, rfl, show 3 < 16 by decide, rfl, fun _law_wide => ?_⟩
      refine ws_seq ?_
      refine ws_ctx (Γ' := [.own true ((wLst K yInt) r1.2), .val ((yPr K (yTup K yStr) (yTup K (yTr K yStr yStr yInt))) _law_theory_here), .val ((yLst K yStr) _law_kept), .val ((yLst K yStr) _law_wide), .any, .any, .any, .any, .any, .any, .any, .any, .any, .any, .any, .any]) rfl ?_
      refine ws_setL yInt ?_
      refine wx_call ?_
      refine wa_io rfl ?_
      refine wa_cons ?_
      refine wx_int ?_
      refine ⟨_, rfl, ?_⟩
      refine wa_nil ?_
      refine rc_call _ _ _ ⟨r1.2, (11 : Int), rfl, rfl⟩ ⟨⟨_, rfl⟩, rfl, trivial⟩ (show List.Nodup ([0] : List Nat) by decide) rfl (.inr fun _ z => by first | exact noerr_ne z | exact (nomatch z)) fun r2 _ => ?_
      refine ⟨r2.1, _, rfl, show 4 < 16 by decide, rfl, fun _law_start => ?_⟩
      refine ws_seq ?_
      refine ws_ctx (Γ' := [.own true ((wLst K yInt) r2.2), .val ((yPr K (yTup K yStr) (yTup K (yTr K yStr yStr yInt))) _law_theory_here), .val ((yLst K yStr) _law_kept), .val ((yLst K yStr) _law_wide), .val (yInt _law_start), .any, .any, .any, .any, .any, .any, .any, .any, .any, .any, .any]) rfl ?_
      refine ws_setL yInt ?_
      refine wx_op ?_
      refine wx_int ?_
      refine ⟨_, rfl, ?_⟩
      refine wx_call ?_
      refine wa_io rfl ?_
      refine wa_cons ?_
      refine wx_int ?_
      refine ⟨_, rfl, ?_⟩
      refine wa_nil ?_
      refine rc_call _ _ _ ⟨r2.2, (10 : Int), rfl, rfl⟩ ⟨⟨_, rfl⟩, rfl, trivial⟩ (show List.Nodup ([0] : List Nat) by decide) rfl (.inr fun _ z => by first | exact noerr_ne z | exact (nomatch z)) fun r3 _ => ?_
      refine ⟨_, rfl, ?_⟩
      refine rx_ari rfl ?_
      refine ⟨((1 : Int) + r3.1), _, rfl, show 5 < 16 by decide, rfl, fun _law_step => ?_⟩
      refine ws_seq ?_
      refine ws_ctx (Γ' := [.own true ((wLst K yInt) r3.2), .val ((yPr K (yTup K yStr) (yTup K (yTr K yStr yStr yInt))) _law_theory_here), .val ((yLst K yStr) _law_kept), .val ((yLst K yStr) _law_wide), .val (yInt _law_start), .val (yInt _law_step), .any, .any, .any, .any, .any, .any, .any, .any, .any, .any]) rfl ?_
      refine ws_setL (yLst K yStr) ?_
      refine wx_fz ?_
      refine wx_lcU (K := K) yInt yStr (gk_name (by decide)) ?_
      refine wi_rng1 ?_
      refine wa_cons ?_
      refine wx_int ?_
      refine ⟨_, rfl, ?_⟩
      refine wa_nil ?_
      refine ⟨_, _, rfl, rfl, ?_⟩
      refine ⟨_, (rng 0 ((11 : Int)).toNat), _, rfl, rfl, fun q1 => ?_, fun r7 => ?_⟩
      · refine wg_ctx (Γ' := [.any, .val ((yPr K (yTup K yStr) (yTup K (yTr K yStr yStr yInt))) _law_theory_here), .val ((yLst K yStr) _law_kept), .val ((yLst K yStr) _law_wide), .val (yInt _law_start), .val (yInt _law_step), .any, .any, .any, .any, .any, .any, .any, .any, .any, .any]) rfl ?_
        refine wg_name (show 6 < 16 by decide) ?_
        refine wt_yes ?_
        refine ⟨_, (if_pos rfl).symm, ?_⟩
        refine wx_op ?_
        refine wx_var rfl ?_
        refine ⟨_, rfl, ?_⟩
        refine wx_op ?_
        refine wx_cb ?_
        refine wa_cons ?_
        refine wx_op ?_
        refine wx_var rfl ?_
        refine ⟨_, rfl, ?_⟩
        refine wx_op ?_
        refine wx_var rfl ?_
        refine ⟨_, rfl, ?_⟩
        refine wx_var rfl ?_
        refine ⟨_, rfl, ?_⟩
        refine rx_mul rfl rfl fun r5 => ?_
        refine ⟨_, rfl, ?_⟩
        refine rx_ari rfl ?_
        refine ⟨_, rfl, ?_⟩
        refine wa_nil ?_
        refine rc_int1 ?_
        refine ⟨_, rfl, ?_⟩
        refine wx_int ?_
        refine ⟨_, rfl, ?_⟩
        refine rx_it (f := fun i j => i % j) (by decide) rfl ?_
        refine ⟨_, rfl, ?_⟩
        refine rx_ixLp (t := yStr) (xs := _law_wide) rfl fun r6 => ?_
        exact ⟨_, rfl, rfl⟩
      refine ⟨_, rfl, ?_⟩
      refine ⟨r7, _, rfl, show 7 < 16 by decide, rfl, fun _law_order => ?_⟩
      refine ws_seq ?_
      refine ws_ctx (Γ' := [.own true ((wLst K yInt) r3.2), .val ((yPr K (yTup K yStr) (yTup K (yTr K yStr yStr yInt))) _law_theory_here), .val ((yLst K yStr) _law_kept), .val ((yLst K yStr) _law_wide), .val (yInt _law_start), .val (yInt _law_step), .any, .val ((yLst K yStr) _law_order), .any, .any, .any, .any, .any, .any, .any, .any]) rfl ?_
      refine ws_setL (yLst K yStr) ?_
      refine wx_fz ?_
      refine wx_lc (K := K) yStr yStr (fun q2 => (!decide (q2 ∈ _law_kept))) (fun q2 => q2) (gk_name (by decide)) ?_
      refine wi_list ?_
      refine wx_var rfl ?_
      refine ⟨_, rfl, ?_⟩
      refine ⟨_law_order, rfl, fun q2 => ?_, ?_⟩
      · refine wg_ctx (Γ' := [.any, .val ((yPr K (yTup K yStr) (yTup K (yTr K yStr yStr yInt))) _law_theory_here), .val ((yLst K yStr) _law_kept), .val ((yLst K yStr) _law_wide), .val (yInt _law_start), .val (yInt _law_step), .any, .val ((yLst K yStr) _law_order), .any, .any, .any, .any, .any, .any, .any, .any]) rfl ?_
        refine wg_name (show 14 < 16 by decide) ?_
        refine wt_b ?_
        refine wx_op ?_
        refine wx_var rfl ?_
        refine ⟨_, rfl, ?_⟩
        refine wx_var rfl ?_
        refine ⟨_, rfl, ?_⟩
        refine rx_ninD (K := K) (t := yStr) (x := q2) (ys := _law_kept) (pLst K) (Nat.le_of_ble_eq_true rfl) ?_
        refine ⟨_, rfl, ?_⟩
        refine ⟨rfl, fun _ => ?_⟩
        refine wx_var rfl ?_
        exact rfl
      refine ⟨_, rfl, ?_⟩
      refine ⟨((_law_order.filter fun q2 => (!decide (q2 ∈ _law_kept))).map fun q2 => q2), _, rfl, show 8 < 16 by decide, rfl, fun _law_free => ?_⟩
      refine ws_seq ?_
      refine ws_ctx (Γ' := [.own true ((wLst K yInt) r3.2), .val ((yPr K (yTup K yStr) (yTup K (yTr K yStr yStr yInt))) _law_theory_here), .val ((yLst K yStr) _law_kept), .val ((yLst K yStr) _law_wide), .val (yInt _law_start), .val (yInt _law_step), .any, .val ((yLst K yStr) _law_order), .val ((yLst K yStr) _law_free), .any, .any, .any, .any, .any, .any, .any]) rfl ?_
      refine ws_setO (wDct (κ := Str) yStr) ?_
      refine wx_dnew ?_
      refine ⟨([] : (List (Str × Str))), _, rfl, show 9 < 16 by decide, rfl, fun _law_table => ?_⟩
      refine ws_seq ?_
      refine ws_ctx (Γ' := [.own true ((wLst K yInt) r3.2), .val ((yPr K (yTup K yStr) (yTup K (yTr K yStr yStr yInt))) _law_theory_here), .val ((yLst K yStr) _law_kept), .val ((yLst K yStr) _law_wide), .val (yInt _law_start), .val (yInt _law_step), .any, .val ((yLst K yStr) _law_order), .val ((yLst K yStr) _law_free), .own false ((wDct (κ := Str) yStr) _law_table), .any, .any, .any, .any, .any, .any]) rfl ?_
      refine ws_setL (yLst K yStr) ?_
      refine wx_fz ?_
      refine wx_lc (K := K) yStr yStr (fun q3 => (!decide (q3 ∈ _law_kept))) (fun q3 => q3) (gk_name (by decide)) ?_
      refine wi_tup ?_
      refine wx_op ?_
      refine wx_var rfl ?_
      refine ⟨_, rfl, ?_⟩
      refine wx_int ?_
      refine ⟨_, rfl, ?_⟩
      refine rx_ixT rfl ?_
      refine ⟨_, rfl, ?_⟩
      refine ⟨_law_theory_here.1, rfl, fun q3 => ?_, ?_⟩
      · refine wg_ctx (Γ' := [.any, .val ((yPr K (yTup K yStr) (yTup K (yTr K yStr yStr yInt))) _law_theory_here), .val ((yLst K yStr) _law_kept), .val ((yLst K yStr) _law_wide), .val (yInt _law_start), .val (yInt _law_step), .any, .val ((yLst K yStr) _law_order), .val ((yLst K yStr) _law_free), .any, .any, .any, .any, .any, .any, .any]) rfl ?_
        refine wg_name (show 14 < 16 by decide) ?_
        refine wt_b ?_
        refine wx_op ?_
        refine wx_var rfl ?_
        refine ⟨_, rfl, ?_⟩
        refine wx_var rfl ?_
        refine ⟨_, rfl, ?_⟩
        refine rx_ninD (K := K) (t := yStr) (x := q3) (ys := _law_kept) (pLst K) (Nat.le_of_ble_eq_true rfl) ?_
        refine ⟨_, rfl, ?_⟩
        refine ⟨rfl, fun _ => ?_⟩
        refine wx_var rfl ?_
        exact rfl
      refine ⟨_, rfl, ?_⟩
      refine ⟨((_law_theory_here.1.filter fun q3 => (!decide (q3 ∈ _law_kept))).map fun q3 => q3), _, rfl, show 10 < 16 by decide, rfl, fun _law_moved => ?_⟩
      refine ws_seq ?_
      refine ws_ctx (Γ' := [.own true ((wLst K yInt) r3.2), .val ((yPr K (yTup K yStr) (yTup K (yTr K yStr yStr yInt))) _law_theory_here), .val ((yLst K yStr) _law_kept), .val ((yLst K yStr) _law_wide), .val (yInt _law_start), .val (yInt _law_step), .any, .val ((yLst K yStr) _law_order), .val ((yLst K yStr) _law_free), .own false ((wDct (κ := Str) yStr) _law_table), .val ((yLst K yStr) _law_moved), .any, .any, .any, .any, .any]) rfl ?_
      refine ws_for (μ := ((List (Str × Str)))) yInt ?_
      refine wi_rng1 ?_
      refine wa_cons ?_
      refine wx_cb ?_
      refine wa_cons ?_
      refine wx_var rfl ?_
      refine ⟨_, rfl, ?_⟩
      refine wa_nil ?_
      refine rc_lenSq (pLst K) ?_
      rw [List.length_map]
      refine ⟨_, rfl, ?_⟩
      refine wa_nil ?_
      refine ⟨_, _, rfl, rfl, ?_⟩
      refine ⟨_, (fun s1 : ((List (Str × Str))) => [.own true ((wLst K yInt) r3.2), .val ((yPr K (yTup K yStr) (yTup K (yTr K yStr yStr yInt))) _law_theory_here), .val ((yLst K yStr) _law_kept), .val ((yLst K yStr) _law_wide), .val (yInt _law_start), .val (yInt _law_step), .any, .val ((yLst K yStr) _law_order), .val ((yLst K yStr) _law_free), .own false ((wDct (κ := Str) yStr) s1), .val ((yLst K yStr) _law_moved), .any, .any, .any, .any, .any]), (rng 0 ((_law_moved.length : Int)).toNat), _, _, rfl, rfl, by walk_at "subc", fun s1 q4 => ?_, fun s1 => ?_⟩
      · refine wg_name (show 6 < 16 by decide) ?_
        refine ws_ctx (Γ' := [.own true ((wLst K yInt) r3.2), .val ((yPr K (yTup K yStr) (yTup K (yTr K yStr yStr yInt))) _law_theory_here), .val ((yLst K yStr) _law_kept), .val ((yLst K yStr) _law_wide), .val (yInt _law_start), .val (yInt _law_step), .val (yInt q4), .val ((yLst K yStr) _law_order), .val ((yLst K yStr) _law_free), .own false ((wDct (κ := Str) yStr) s1), .val ((yLst K yStr) _law_moved), .any, .any, .any, .any, .any]) rfl ?_
        refine ws_if ?_
        refine wt_b ?_
        refine wx_op ?_
        refine wx_op ?_
        refine wx_var rfl ?_
        refine ⟨_, rfl, ?_⟩
        refine wx_var rfl ?_
        refine ⟨_, rfl, ?_⟩
        refine rx_ixLp (t := yStr) (xs := _law_free) rfl fun r9 => ?_
        refine ⟨_, rfl, ?_⟩
        refine wx_op ?_
        refine wx_var rfl ?_
        refine ⟨_, rfl, ?_⟩
        refine wx_var rfl ?_
        refine ⟨_, rfl, ?_⟩
        refine rx_ixLp (t := yStr) (xs := _law_moved) rfl fun r10 => ?_
        refine ⟨_, rfl, ?_⟩
        refine rx_ne ?_
        refine ⟨_, rfl, ?_⟩
        refine ⟨_, _, rfl, ?_, ?_⟩
        · refine ws_ctx (Γ' := [.own true ((wLst K yInt) r3.2), .val ((yPr K (yTup K yStr) (yTup K (yTr K yStr yStr yInt))) _law_theory_here), .val ((yLst K yStr) _law_kept), .val ((yLst K yStr) _law_wide), .val (yInt _law_start), .val (yInt _law_step), .val (yInt q4), .val ((yLst K yStr) _law_order), .val ((yLst K yStr) _law_free), .own false ((wDct (κ := Str) yStr) s1), .val ((yLst K yStr) _law_moved), .any, .any, .any, .any, .any]) rfl ?_
          refine ws_dput (t := yStr) (tk := yStr) ?_
          refine wx_op ?_
          refine wx_var rfl ?_
          refine ⟨_, rfl, ?_⟩
          refine wx_var rfl ?_
          refine ⟨_, rfl, ?_⟩
          refine rx_ixLp (t := yStr) (xs := _law_free) rfl fun r11 => ?_
          refine ⟨r11, rfl, ⟨_, _, rfl⟩, ?_⟩
          refine wx_op ?_
          refine wx_var rfl ?_
          refine ⟨_, rfl, ?_⟩
          refine wx_var rfl ?_
          refine ⟨_, rfl, ?_⟩
          refine rx_ixLp (t := yStr) (xs := _law_moved) rfl fun r12 => ?_
          refine ⟨_, r12, _, s1, rfl, rfl, rfl, fun d1 => ?_⟩
          exact ⟨_, rfl, by walk_at "subc"⟩
        · refine ws_next ?_
          exact ⟨_, rfl, by walk_at "subc"⟩
      refine ws_seq ?_
      refine ws_ctx (Γ' := [.own true ((wLst K yInt) r3.2), .val ((yPr K (yTup K yStr) (yTup K (yTr K yStr yStr yInt))) _law_theory_here), .val ((yLst K yStr) _law_kept), .val ((yLst K yStr) _law_wide), .val (yInt _law_start), .val (yInt _law_step), .any, .val ((yLst K yStr) _law_order), .val ((yLst K yStr) _law_free), .own false ((wDct (κ := Str) yStr) s1), .val ((yLst K yStr) _law_moved), .any, .any, .any, .any, .any]) rfl ?_
      refine ws_frz 9 rfl ?_
      refine ws_setL (yLst K (yPr K yStr yStr)) ?_
      refine wx_fz ?_
      refine wx_lcU (K := K) yStr (yPr K yStr yStr) (gk_name (by decide)) ?_
      refine wi_list ?_
      refine wx_fz ?_
      refine wx_cb ?_
      refine wa_cons ?_
      refine wx_var rfl ?_
      refine ⟨_, rfl, ?_⟩
      refine wa_nil ?_
      refine rc_sortD (K := K) (xs := dkeys s1) kpl_keysS rfl ?_
      refine ⟨_, rfl, ?_⟩
      refine ⟨_, rfl, ?_⟩
      refine ⟨_, (sortS (dkeys s1)), _, rfl, rfl, fun q5 => ?_, fun r15 => ?_⟩
      · refine wg_ctx (Γ' := [.any, .val ((yPr K (yTup K yStr) (yTup K (yTr K yStr yStr yInt))) _law_theory_here), .val ((yLst K yStr) _law_kept), .val ((yLst K yStr) _law_wide), .val (yInt _law_start), .val (yInt _law_step), .any, .val ((yLst K yStr) _law_order), .val ((yLst K yStr) _law_free), .val ((yDct (κ := Str) yStr) s1), .val ((yLst K yStr) _law_moved), .any, .any, .any, .any, .any]) rfl ?_
        refine wg_name (show 14 < 16 by decide) ?_
        refine wt_yes ?_
        refine ⟨_, (if_pos rfl).symm, ?_⟩
        refine wx_tup (K := K) ?_
        refine wa_cons ?_
        refine wx_var rfl ?_
        refine ⟨_, rfl, ?_⟩
        refine wa_cons ?_
        refine wx_dget (t := yStr) (tk := yStr) ?_
        refine wx_var rfl ?_
        refine ⟨s1, rfl, ?_⟩
        refine wx_var rfl ?_
        refine ⟨_, _, rfl, rfl, fun r14 => ?_⟩
        refine ⟨_, rfl, ?_⟩
        refine wa_nil ?_
        refine ⟨[yStr q5, yStr r14], rfl, show 2 ≤ 1000 by decide, ?_⟩
        exact ⟨_, rfl, rfl⟩
      refine ⟨_, rfl, ?_⟩
      refine ⟨r15, _, rfl, show 11 < 16 by decide, rfl, fun _law_before => ?_⟩
      refine ws_seq ?_
      refine ws_ctx (Γ' := [.own true ((wLst K yInt) r3.2), .val ((yPr K (yTup K yStr) (yTup K (yTr K yStr yStr yInt))) _law_theory_here), .val ((yLst K yStr) _law_kept), .val ((yLst K yStr) _law_wide), .val (yInt _law_start), .val (yInt _law_step), .any, .val ((yLst K yStr) _law_order), .val ((yLst K yStr) _law_free), .val ((yDct (κ := Str) yStr) s1), .val ((yLst K yStr) _law_moved), .val ((yLst K (yPr K yStr yStr)) _law_before), .any, .any, .any, .any]) rfl ?_
      refine ws_setL (yLst K yStr) ?_
      refine wx_fz ?_
      refine wx_cb ?_
      refine wa_cons ?_
      refine wx_fz ?_
      refine wx_lcA (K := K) yStr yStr (fun q6 => (dgetD s1 q6 q6)) (gk_name (by decide)) ?_
      refine wi_tup ?_
      refine wx_op ?_
      refine wx_var rfl ?_
      refine ⟨_, rfl, ?_⟩
      refine wx_int ?_
      refine ⟨_, rfl, ?_⟩
      refine rx_ixT rfl ?_
      refine ⟨_, rfl, ?_⟩
      refine ⟨_law_theory_here.1, rfl, fun q6 => ?_, ?_⟩
      · refine wg_ctx (Γ' := [.any, .val ((yPr K (yTup K yStr) (yTup K (yTr K yStr yStr yInt))) _law_theory_here), .val ((yLst K yStr) _law_kept), .val ((yLst K yStr) _law_wide), .val (yInt _law_start), .val (yInt _law_step), .any, .val ((yLst K yStr) _law_order), .val ((yLst K yStr) _law_free), .val ((yDct (κ := Str) yStr) s1), .val ((yLst K yStr) _law_moved), .val ((yLst K (yPr K yStr yStr)) _law_before), .any, .any, .any, .any]) rfl ?_
        refine wg_name (show 14 < 16 by decide) ?_
        refine wx_dget2 (t := yStr) (tk := yStr) ?_
        refine wx_var rfl ?_
        refine ⟨s1, rfl, ?_⟩
        refine wx_var rfl ?_
        refine ⟨_, rfl, ?_⟩
        refine wx_var rfl ?_
        refine ⟨_, rfl, ?_⟩
        exact rfl
      refine ⟨_, rfl, ?_⟩
      refine ⟨_, rfl, ?_⟩
      refine wa_nil ?_
      refine rc_sortS rfl ?_
      refine ⟨_, rfl, ?_⟩
      refine ⟨(sortS (_law_theory_here.1.map fun q6 => (dgetD s1 q6 q6))), _, rfl, show 12 < 16 by decide, rfl, fun _law_names => ?_⟩
      refine ws_seq ?_
      refine ws_ctx (Γ' := [.own true ((wLst K yInt) r3.2), .val ((yPr K (yTup K yStr) (yTup K (yTr K yStr yStr yInt))) _law_theory_here), .val ((yLst K yStr) _law_kept), .val ((yLst K yStr) _law_wide), .val (yInt _law_start), .val (yInt _law_step), .any, .val ((yLst K yStr) _law_order), .val ((yLst K yStr) _law_free), .val ((yDct (κ := Str) yStr) s1), .val ((yLst K yStr) _law_moved), .val ((yLst K (yPr K yStr yStr)) _law_before), .val ((yLst K yStr) _law_names), .any, .any, .any]) rfl ?_
      refine ws_setL (yLst K (yTr K yStr yStr yInt)) ?_
      refine wx_fz ?_
      refine wx_lcA (K := K) (yTr K yStr yStr yInt) (yTr K yStr yStr yInt) (fun q7 => ((dgetD s1 q7.1 q7.1), (dgetD s1 q7.2.1 q7.2.1), q7.2.2)) (gk_name (by decide)) ?_
      refine wi_tup ?_
      refine wx_op ?_
      refine wx_var rfl ?_
      refine ⟨_, rfl, ?_⟩
      refine wx_int ?_
      refine ⟨_, rfl, ?_⟩
      refine rx_ixT rfl ?_
      refine ⟨_, rfl, ?_⟩
      refine ⟨_law_theory_here.2, rfl, fun q7 => ?_, ?_⟩
      · refine wg_ctx (Γ' := [.any, .val ((yPr K (yTup K yStr) (yTup K (yTr K yStr yStr yInt))) _law_theory_here), .val ((yLst K yStr) _law_kept), .val ((yLst K yStr) _law_wide), .val (yInt _law_start), .val (yInt _law_step), .any, .val ((yLst K yStr) _law_order), .val ((yLst K yStr) _law_free), .val ((yDct (κ := Str) yStr) s1), .val ((yLst K yStr) _law_moved), .val ((yLst K (yPr K yStr yStr)) _law_before), .val ((yLst K yStr) _law_names), .any, .any, .any]) rfl ?_
        refine wg_name (show 15 < 16 by decide) ?_
        refine wx_tup (K := K) ?_
        refine wa_cons ?_
        refine wx_dget2 (t := yStr) (tk := yStr) ?_
        refine wx_var rfl ?_
        refine ⟨s1, rfl, ?_⟩
        refine wx_op ?_
        refine wx_var rfl ?_
        refine ⟨_, rfl, ?_⟩
        refine wx_int ?_
        refine ⟨_, rfl, ?_⟩
        refine rx_ixT rfl ?_
        refine ⟨_, rfl, ?_⟩
        refine wx_op ?_
        refine wx_var rfl ?_
        refine ⟨_, rfl, ?_⟩
        refine wx_int ?_
        refine ⟨_, rfl, ?_⟩
        refine rx_ixT rfl ?_
        refine ⟨_, rfl, ?_⟩
        refine ⟨_, rfl, ?_⟩
        refine wa_cons ?_
        refine wx_dget2 (t := yStr) (tk := yStr) ?_
        refine wx_var rfl ?_
        refine ⟨s1, rfl, ?_⟩
        refine wx_op ?_
        refine wx_var rfl ?_
        refine ⟨_, rfl, ?_⟩
        refine wx_int ?_
        refine ⟨_, rfl, ?_⟩
        refine rx_ixT rfl ?_
        refine ⟨_, rfl, ?_⟩
        refine wx_op ?_
        refine wx_var rfl ?_
        refine ⟨_, rfl, ?_⟩
        refine wx_int ?_
        refine ⟨_, rfl, ?_⟩
        refine rx_ixT rfl ?_
        refine ⟨_, rfl, ?_⟩
        refine ⟨_, rfl, ?_⟩
        refine wa_cons ?_
        refine wx_op ?_
        refine wx_var rfl ?_
        refine ⟨_, rfl, ?_⟩
        refine wx_int ?_
        refine ⟨_, rfl, ?_⟩
        refine rx_ixT rfl ?_
        refine ⟨_, rfl, ?_⟩
        refine wa_nil ?_
        refine ⟨[yStr (dgetD s1 q7.1 q7.1), yStr (dgetD s1 q7.2.1 q7.2.1), yInt q7.2.2], rfl, show 3 ≤ 1000 by decide, ?_⟩
        exact rfl
      refine ⟨_, rfl, ?_⟩
      refine ⟨(_law_theory_here.2.map fun q7 => ((dgetD s1 q7.1 q7.1), (dgetD s1 q7.2.1 q7.2.1), q7.2.2)), _, rfl, show 13 < 16 by decide, rfl, fun _law_constraints => ?_⟩
      refine ws_seq ?_
      refine ws_ctx (Γ' := [.own true ((wLst K yInt) r3.2), .val ((yPr K (yTup K yStr) (yTup K (yTr K yStr yStr yInt))) _law_theory_here), .val ((yLst K yStr) _law_kept), .val ((yLst K yStr) _law_wide), .val (yInt _law_start), .val (yInt _law_step), .any, .val ((yLst K yStr) _law_order), .val ((yLst K yStr) _law_free), .val ((yDct (κ := Str) yStr) s1), .val ((yLst K yStr) _law_moved), .val ((yLst K (yPr K yStr yStr)) _law_before), .val ((yLst K yStr) _law_names), .val ((yLst K (yTr K yStr yStr yInt)) _law_constraints), .any, .any]) rfl ?_
      refine ws_if ?_
      refine wt_b ?_
      refine wx_op ?_
      refine wx_meth ?_
      refine wx_makeP ?_
      refine ⟨_, rfl, rfl, ?_⟩
      refine wa_cons ?_
      refine wx_var rfl ?_
      refine ⟨_, rfl, ?_⟩
      refine wa_cons ?_
      refine wx_var rfl ?_
      refine ⟨_, rfl, ?_⟩
      refine wa_nil ?_
      refine rc_call _ _ _ ⟨(), _law_theory_here, s1, rfl, rfl⟩ ⟨rfl, rfl, rfl, trivial⟩ (show List.Nodup ([] : List Nat) by decide) rfl (.inr fun _ z => by first | exact noerr_ne z | exact (nomatch z)) fun r17 _ => ?_
      refine ⟨_, rfl, ?_⟩
      refine wx_tup (K := K) ?_
      refine wa_cons ?_
      refine wx_cb ?_
      refine wa_cons ?_
      refine wx_var rfl ?_
      refine ⟨_, rfl, ?_⟩
      refine wa_nil ?_
      refine rc_tuple (pLst K) ?_
      refine ⟨_, rfl, ?_⟩
      refine wa_cons ?_
      refine wx_cb ?_
      refine wa_cons ?_
      refine wx_var rfl ?_
      refine ⟨_, rfl, ?_⟩
      refine wa_nil ?_
      refine rc_tuple (pLst K) ?_
      refine ⟨_, rfl, ?_⟩
      refine wa_nil ?_
      refine ⟨[(yTup K yStr) _law_names, (yTup K (yTr K yStr yStr yInt)) _law_constraints], rfl, show 2 ≤ 1000 by decide, ?_⟩
      refine ⟨_, rfl, ?_⟩
      refine rx_neD (K := K) (t := (yPr K (yTup K yStr) (yTup K (yTr K yStr yStr yInt)))) (x := r17) (y := (_law_names, _law_constraints)) (Nat.le_of_ble_eq_true rfl) ?_
      refine ⟨_, rfl, ?_⟩
      refine ⟨_, _, rfl, ?_, ?_⟩
      · refine ws_ctx (Γ' := [.own true ((wLst K yInt) r3.2), .val ((yPr K (yTup K yStr) (yTup K (yTr K yStr yStr yInt))) _law_theory_here), .val ((yLst K yStr) _law_kept), .val ((yLst K yStr) _law_wide), .val (yInt _law_start), .val (yInt _law_step), .any, .val ((yLst K yStr) _law_order), .val ((yLst K yStr) _law_free), .val ((yDct (κ := Str) yStr) s1), .val ((yLst K yStr) _law_moved), .val ((yLst K (yPr K yStr yStr)) _law_before), .val ((yLst K yStr) _law_names), .val ((yLst K (yTr K yStr yStr yInt)) _law_constraints), .any, .any]) rfl ?_
        refine ws_ret ?_
        refine wx_bl ?_
        exact ⟨_, rfl, rfl, (by first | trivial | exact ⟨rfl, trivial⟩ | exact ⟨rfl, rfl, trivial⟩)⟩
      · refine ws_next ?_
        refine ws_ctx (Γ' := [.own true ((wLst K yInt) r3.2), .val ((yPr K (yTup K yStr) (yTup K (yTr K yStr yStr yInt))) _law_theory_here), .val ((yLst K yStr) _law_kept), .val ((yLst K yStr) _law_wide), .val (yInt _law_start), .val (yInt _law_step), .any, .val ((yLst K yStr) _law_order), .val ((yLst K yStr) _law_free), .val ((yDct (κ := Str) yStr) s1), .val ((yLst K yStr) _law_moved), .val ((yLst K (yPr K yStr yStr)) _law_before), .val ((yLst K yStr) _law_names), .val ((yLst K (yTr K yStr yStr yInt)) _law_constraints), .any, .any]) rfl ?_
        refine ws_ret ?_
        refine wx_op ?_
        refine wx_fz ?_
        refine wx_lcU (K := K) yStr (yPr K yStr yStr) (gk_name (by decide)) ?_
        refine wi_list ?_
        refine wx_fz ?_
        refine wx_cb ?_
        refine wa_cons ?_
        refine wx_var rfl ?_
        refine ⟨_, rfl, ?_⟩
        refine wa_nil ?_
        refine rc_sortD (K := K) (xs := dkeys s1) kpl_keysS rfl ?_
        refine ⟨_, rfl, ?_⟩
        refine ⟨_, rfl, ?_⟩
        refine ⟨_, (sortS (dkeys s1)), _, rfl, rfl, fun q8 => ?_, fun r20 => ?_⟩
        · refine wg_ctx (Γ' := [.any, .val ((yPr K (yTup K yStr) (yTup K (yTr K yStr yStr yInt))) _law_theory_here), .val ((yLst K yStr) _law_kept), .val ((yLst K yStr) _law_wide), .val (yInt _law_start), .val (yInt _law_step), .any, .val ((yLst K yStr) _law_order), .val ((yLst K yStr) _law_free), .val ((yDct (κ := Str) yStr) s1), .val ((yLst K yStr) _law_moved), .val ((yLst K (yPr K yStr yStr)) _law_before), .val ((yLst K yStr) _law_names), .val ((yLst K (yTr K yStr yStr yInt)) _law_constraints), .any, .any]) rfl ?_
          refine wg_name (show 14 < 16 by decide) ?_
          refine wt_yes ?_
          refine ⟨_, (if_pos rfl).symm, ?_⟩
          refine wx_tup (K := K) ?_
          refine wa_cons ?_
          refine wx_var rfl ?_
          refine ⟨_, rfl, ?_⟩
          refine wa_cons ?_
          refine wx_dget (t := yStr) (tk := yStr) ?_
          refine wx_var rfl ?_
          refine ⟨s1, rfl, ?_⟩
          refine wx_var rfl ?_
          refine ⟨_, _, rfl, rfl, fun r19 => ?_⟩
          refine ⟨_, rfl, ?_⟩
          refine wa_nil ?_
          refine ⟨[yStr q8, yStr r19], rfl, show 2 ≤ 1000 by decide, ?_⟩
          exact ⟨_, rfl, rfl⟩
        refine ⟨_, rfl, ?_⟩
        refine ⟨_, rfl, ?_⟩
        refine wx_var rfl ?_
        refine ⟨_, rfl, ?_⟩
        refine rx_eqD (K := K) (t := (yLst K (yPr K yStr yStr))) (x := r20) (y := _law_before) (Nat.le_of_ble_eq_true rfl) ?_
        exact ⟨_, rfl, rfl, (by first | trivial | exact ⟨rfl, trivial⟩ | exact ⟨rfl, rfl, trivial⟩)⟩
def pre__law_pin_right (K : PySem.W.Frag) (A : Nat → Addr) : List Ar → Cl → Prop := fun as d => ∃ (_law_source_here : (List Int)) (_law_names : (List Str)), as = [.io ((wLst K yInt) _law_source_here), .val ((yTup K yStr) _law_names)] ∧ d = ⟨(Bool × (List Int)), f__law_pin_right _law_source_here _law_names, fun r => .val (yBl r.1), fun r => [(wLst K yInt) r.2]⟩
theorem ok__law_pin_right (T : Txt P K mg A D) : FnOk P w K mg base CX0 2 (A 24) (D 24) ["_law_source_here", "_law_names"] (spM A (pre__law_pin_right K A)) := by
  refine T.F__law_pin_right.ok sc__law_pin_right (fun vs H Q E h => ?_) (fun cdv A' outer s H vs Q E hr h => ?_)
  · exact spM_len h fun as d hp => by obtain ⟨_law_source_here, _law_names, rfl, rfl⟩ := hp; rfl
  · have hu := hu_of hr
    have G__law_draw : FnOk P w K mg base CX0 1 (A 14) (D 14) ["_law_source_here", "_law_limit"] (spM A (pre__law_draw K A)) := ok__law_draw T
    have G_Steps_pin : FnOk P w K mg base CX0 1 (A 1233) (D 1233) ["self", "names", "assignment"] (spM A (pre_Steps_pin K A)) := ok_Steps_pin T
    refine ⟨_, (pss_cons (ps_set (i := 2) sc__law_pin_right.nd rfl (Or.inl rfl) pe_dnewK)
      (pss_cons (ps_set (i := 3) sc__law_pin_right.nd rfl (Or.inl rfl) (pe_lst pa_nil))
      (pss_cons (ps_for PassesOwn.never rfl (iK_tup (K := K) rfl (pv 1)) (pg_name (i := 4) sc__law_pin_right.nd rfl (Or.inl rfl))
        (pss_cons (ps_set (i := 5) sc__law_pin_right.nd rfl (Or.inl rfl) (pe_op op_sub (pe_call G__law_draw (hr.mono (by decide)) rfl T.g__law_draw T.F__law_draw.kp T.b__law_draw .nil pass0 (pa_cons (pv 0) (pa_cons pe_int pa_nil))) pe_int))
        (pss_cons (ps_dput hu (pv 2) (pv 4) (pv 5) rfl)
        (pss_cons (ps_expr (pe_bm PySem.F.plainAttrs_list PySem.F.slot_list_append PySem.F.type_list_append mt_append (pv 3) (pa_cons (pe_tup (pa_cons (pv 4) (pa_cons pe_str (pa_cons (pv 5) pa_nil)))) pa_nil)))
        (pss_one (ps_expr (pe_bm PySem.F.plainAttrs_list PySem.F.slot_list_append PySem.F.type_list_append mt_append (pv 3) (pa_cons (pe_tup (pa_cons pe_str (pa_cons (pv 4) (pa_cons (pe_op op_sub pe_int (pv 5)) pa_nil)))) pa_nil))))))))
      (pss_cons (ps_set (i := 6) sc__law_pin_right.nd rfl (Or.inl rfl) (methO_of (pe_meth (pe_makeP T.mp_Steps rfl T.g_Steps) T.cl_Steps T.M_Steps_pin G_Steps_pin (hr.mono (by decide)) T.b_Steps_pin .nil pass0 (pa_cons (pv 1) (pa_cons (pv 2) pa_nil)) (ht := ht_call (by decide)))))
      (pss_cons (ps_if (PW.pt (pw_or (pt_cmpR (oP_ne (K := K) rfl hr.units) (pv 6) (pe_tup (pa_cons (pv 1) (pa_cons (pe_callTy (T := "tuple") (cK_tuple (K := K) rfl) (by rfl) T.z_tuple (by decide +kernel) (pa_cons (pv 3) pa_nil)) pa_nil))) (nomark _)) (pw_or1 (pt_cmpR (oP_ne (K := K) rfl hr.units) (pe_callB (id := "sorted") (call_sortedD rfl) (by rfl) T.z_sorted (by decide +kernel) (pa_cons (pv 2) pa_nil)) (pe_callTy (T := "list") (cK_list (K := K) rfl) (by rfl) T.z_list (by decide +kernel) (pa_cons (pv 1) pa_nil)) (nomark _)))))
        (pss_one (ps_ret pe_bl))
        pss_nil)
      (pss_cons (ps_for PassesOwn.never rfl (iK_tup (K := K) rfl (pe_ix (xK_tup (K := K) rfl) (pv 6) pe_int (fun _ _ => rfl))) (pg_name (i := 7) sc__law_pin_right.nd rfl (Or.inl rfl))
        (pss_one (ps_if (PW.pt (pw_or (pt_not (pt_val (pe_callB (id := "isinstance") (cK_isi (K := K) rfl) (by rfl) T.z_isinstance (by decide +kernel) (pa_cons (pe_ix (xK_tup (K := K) rfl) (pv 7) pe_int (fun _ _ => rfl)) (pa_cons (pe_bltn (v := .ty "int") (u := .type "int") (by rfl) T.z_int (by decide +kernel) rfl) pa_nil))))) (pw_or1 (pt_val (pe_callB (id := "isinstance") (cK_isi (K := K) rfl) (by rfl) T.z_isinstance (by decide +kernel) (pa_cons (pe_ix (xK_tup (K := K) rfl) (pv 7) pe_int (fun _ _ => rfl)) (pa_cons (pe_bltn (v := .ty "bool") (u := .type "bool") (by rfl) T.z_bool (by decide +kernel) rfl) pa_nil)))))))
          (pss_one (ps_ret pe_bl))
          pss_nil)))
      (pss_one (ps_ret pe_bl)))))))), ?_⟩
    refine fn_run0 h (fun as d hp => ?_) fun as d hp => ?_
    · obtain ⟨_law_source_here, _law_names, rfl, rfl⟩ := hp; simp
    · obtain ⟨_law_source_here, _law_names, rfl, rfl⟩ := hp
      refine ⟨_, (show f__law_pin_right _law_source_here _law_names = Res.noerr _ from rfl), ?_⟩
      refine ws_seq ?_
      refine ws_ctx (Γ' := [.own true ((wLst K yInt) _law_source_here), .val ((yTup K yStr) _law_names), .any, .any, .any, .any, .any, .any]) rfl ?_
      refine ws_setO (wDct (κ := Str) yInt) ?_
      refine wx_dnew ?_
      refine ⟨([] : (List (Str × Int))), _, rfl, show 2 < 8 by decide, rfl, fun _law_values => ?_⟩
      refine ws_seq ?_
      refine ws_ctx (Γ' := [.own true ((wLst K yInt) _law_source_here), .val ((yTup K yStr) _law_names), .own false ((wDct (κ := Str) yInt) _law_values), .any, .any, .any, .any, .any]) rfl ?_
      refine ws_setO (wLst K (yTr K yStr yStr yInt)) ?_
      refine wx_lst (K := K) ?_
      refine wa_nil ?_
      refine ⟨[], rfl, show 0 ≤ 1000 by decide, ?_⟩
      refine ⟨([] : List (Str × Str × Int)), _, rfl, show 3 < 8 by decide, rfl, fun _law_expected => ?_⟩
      refine ws_seq ?_
      refine ws_ctx (Γ' := [.own true ((wLst K yInt) _law_source_here), .val ((yTup K yStr) _law_names), .own false ((wDct (κ := Str) yInt) _law_values), .own false ((wLst K (yTr K yStr yStr yInt)) _law_expected), .any, .any, .any, .any]) rfl ?_
      refine ws_for (μ := ((List Int) × (List (Str × Int)) × (List (Str × Str × Int)))) yStr ?_
      refine wi_tup ?_
      refine wx_var rfl ?_
      refine ⟨_, rfl, ?_⟩
      refine ⟨_, (fun s1 : ((List Int) × (List (Str × Int)) × (List (Str × Str × Int))) => [.own true ((wLst K yInt) s1.1), .val ((yTup K yStr) _law_names), .own false ((wDct (κ := Str) yInt) s1.2.1), .own false ((wLst K (yTr K yStr yStr yInt)) s1.2.2), .any, .any, .any, .any]), _law_names, _, _, rfl, rfl, by walk_at "subc", fun s1 q1 => ?_, fun s1 => ?_⟩
      · refine wg_name (show 4 < 8 by decide) ?_
        refine ws_seq ?_
        refine ws_ctx (Γ' := [.own true ((wLst K yInt) s1.1), .val ((yTup K yStr) _law_names), .own false ((wDct (κ := Str) yInt) s1.2.1), .own false ((wLst K (yTr K yStr yStr yInt)) s1.2.2), .val (yStr q1), .any, .any, .any]) rfl ?_
        refine ws_setL yInt ?_
        refine wx_op ?_
        refine wx_call ?_
        refine wa_io rfl ?_
        refine wa_cons ?_
        refine wx_int ?_
        refine ⟨_, rfl, ?_⟩
        refine wa_nil ?_
        refine rc_call _ _ _ ⟨s1.1, (81 : Int), rfl, rfl⟩ ⟨⟨_, rfl⟩, rfl, trivial⟩ (show List.Nodup ([0] : List Nat) by decide) rfl (.inr fun _ z => by first | exact noerr_ne z | exact (nomatch z)) fun r1 _ => ?_
        refine ⟨_, rfl, ?_⟩
        refine wx_int ?_
        refine ⟨_, rfl, ?_⟩
        refine rx_ari rfl ?_
        refine ⟨(r1.1 - (40 : Int)), _, rfl, show 5 < 8 by decide, rfl, fun _law_value_here => ?_⟩
        refine ws_seq ?_
        refine ws_ctx (Γ' := [.own true ((wLst K yInt) r1.2), .val ((yTup K yStr) _law_names), .own false ((wDct (κ := Str) yInt) s1.2.1), .own false ((wLst K (yTr K yStr yStr yInt)) s1.2.2), .val (yStr q1), .val (yInt _law_value_here), .any, .any]) rfl ?_
        refine ws_dput (t := yInt) (tk := yStr) ?_
        refine wx_var rfl ?_
        refine ⟨_law_value_here, rfl, ⟨_, _, rfl⟩, ?_⟩
        refine wx_var rfl ?_
        refine ⟨_, q1, _, s1.2.1, rfl, rfl, rfl, fun d1 => ?_⟩
        refine ws_seq ?_
        refine ws_ctx (Γ' := [.own true ((wLst K yInt) r1.2), .val ((yTup K yStr) _law_names), .own false ((wDct (κ := Str) yInt) d1), .own false ((wLst K (yTr K yStr yStr yInt)) s1.2.2), .val (yStr q1), .val (yInt _law_value_here), .any, .any]) rfl ?_
        refine ws_append (yTr K yStr yStr yInt) (xs0 := s1.2.2) rfl ?_
        refine wx_tup (K := K) ?_
        refine wa_cons ?_
        refine wx_var rfl ?_
        refine ⟨_, rfl, ?_⟩
        refine wa_cons ?_
        refine wx_str ?_
        refine ⟨_, rfl, ?_⟩
        refine wa_cons ?_
        refine wx_var rfl ?_
        refine ⟨_, rfl, ?_⟩
        refine wa_nil ?_
        refine ⟨[yStr q1, yStr ("" : Str), yInt _law_value_here], rfl, show 3 ≤ 1000 by decide, ?_⟩
        refine ⟨_, s1.2.2, (q1, ("" : Str), _law_value_here), _, rfl, rfl, rfl, fun z1 => ?_⟩
        refine ws_ctx (Γ' := [.own true ((wLst K yInt) r1.2), .val ((yTup K yStr) _law_names), .own false ((wDct (κ := Str) yInt) d1), .own false ((wLst K (yTr K yStr yStr yInt)) z1), .val (yStr q1), .val (yInt _law_value_here), .any, .any]) rfl ?_
        refine ws_append (yTr K yStr yStr yInt) (xs0 := z1) rfl ?_
        refine wx_tup (K := K) ?_
        refine wa_cons ?_
        refine wx_str ?_
        refine ⟨_, rfl, ?_⟩
        refine wa_cons ?_
        refine wx_var rfl ?_
        refine ⟨_, rfl, ?_⟩
        refine wa_cons ?_
        refine wx_op ?_
        refine wx_int ?_
        refine ⟨_, rfl, ?_⟩
        refine wx_var rfl ?_
        refine ⟨_, rfl, ?_⟩
        refine rx_ari rfl ?_
        refine ⟨_, rfl, ?_⟩
        refine wa_nil ?_
        refine ⟨[yStr ("" : Str), yStr q1, yInt ((0 : Int) - _law_value_here)], rfl, show 3 ≤ 1000 by decide, ?_⟩
        refine ⟨_, z1, (("" : Str), q1, ((0 : Int) - _law_value_here)), _, rfl, rfl, rfl, fun z2 => ?_⟩
        exact ⟨_, rfl, by walk_at "subc"⟩
      refine ws_seq ?_
      refine ws_ctx (Γ' := [.own true ((wLst K yInt) s1.1), .val ((yTup K yStr) _law_names), .own false ((wDct (κ := Str) yInt) s1.2.1), .own false ((wLst K (yTr K yStr yStr yInt)) s1.2.2), .any, .any, .any, .any]) rfl ?_
      refine ws_frz 2 rfl ?_
      refine ws_setL (yPr K (yTup K yStr) (yTup K (yTr K yStr yStr yInt))) ?_
      refine wx_meth ?_
      refine wx_makeP ?_
      refine ⟨_, rfl, rfl, ?_⟩
      refine wa_cons ?_
      refine wx_var rfl ?_
      refine ⟨_, rfl, ?_⟩
      refine wa_cons ?_
      refine wx_var rfl ?_
      refine ⟨_, rfl, ?_⟩
      refine wa_nil ?_
      refine rc_call _ _ _ ⟨(), _law_names, s1.2.1, rfl, rfl⟩ ⟨rfl, rfl, rfl, trivial⟩ (show List.Nodup ([] : List Nat) by decide) rfl (.inr fun _ z => by first | exact noerr_ne z | exact (nomatch z)) fun r2 _ => ?_
      refine ⟨r2, _, rfl, show 6 < 8 by decide, rfl, fun _law_actual => ?_⟩
      refine ws_seq ?_
      refine ws_ctx (Γ' := [.own true ((wLst K yInt) s1.1), .val ((yTup K yStr) _law_names), .val ((yDct (κ := Str) yInt) s1.2.1), .own false ((wLst K (yTr K yStr yStr yInt)) s1.2.2), .any, .any, .val ((yPr K (yTup K yStr) (yTup K (yTr K yStr yStr yInt))) _law_actual), .any]) rfl ?_
      refine ws_frz 3 rfl ?_
      refine ws_if ?_
      refine wt_orM (μ := Unit) ?_
      refine wt_b ?_
      refine wx_op ?_
      refine wx_var rfl ?_
      refine ⟨_, rfl, ?_⟩
      refine wx_tup (K := K) ?_
      refine wa_cons ?_
      refine wx_var rfl ?_
      refine ⟨_, rfl, ?_⟩
      refine wa_cons ?_
      refine wx_cb ?_
      refine wa_cons ?_
      refine wx_var rfl ?_
      refine ⟨_, rfl, ?_⟩
      refine wa_nil ?_
      refine rc_tuple (pLst K) ?_
      refine ⟨_, rfl, ?_⟩
      refine wa_nil ?_
      refine ⟨[(yTup K yStr) _law_names, (yTup K (yTr K yStr yStr yInt)) s1.2.2], rfl, show 2 ≤ 1000 by decide, ?_⟩
      refine ⟨_, rfl, ?_⟩
      refine rx_neD (K := K) (t := (yPr K (yTup K yStr) (yTup K (yTr K yStr yStr yInt)))) (x := _law_actual) (y := (_law_names, s1.2.2)) (Nat.le_of_ble_eq_true rfl) ?_
      refine ⟨_, rfl, ?_⟩
      refine ⟨(fun s2 : Unit => [.own true ((wLst K yInt) s1.1), .val ((yTup K yStr) _law_names), .val ((yDct (κ := Str) yInt) s1.2.1), .val ((yLst K (yTr K yStr yStr yInt)) s1.2.2), .any, .any, .val ((yPr K (yTup K yStr) (yTup K (yTr K yStr yStr yInt))) _law_actual), .any]), _, (), _, rfl, by walk_at "subc", fun _ => ?_, fun r4 => ?_⟩
      · refine wt_b ?_
        refine wx_op ?_
        refine wx_fz ?_
        refine wx_cb ?_
        refine wa_cons ?_
        refine wx_var rfl ?_
        refine ⟨_, rfl, ?_⟩
        refine wa_nil ?_
        refine rc_sortD (K := K) (xs := dkeys s1.2.1) kpl_keysS rfl ?_
        refine ⟨_, rfl, ?_⟩
        refine ⟨_, rfl, ?_⟩
        refine wx_fz ?_
        refine wx_cb ?_
        refine wa_cons ?_
        refine wx_var rfl ?_
        refine ⟨_, rfl, ?_⟩
        refine wa_nil ?_
        refine rc_list (pTup K) ?_
        refine ⟨_, rfl, ?_⟩
        refine ⟨_, rfl, ?_⟩
        refine rx_neD (K := K) (t := (yLst K yStr)) (x := (sortS (dkeys s1.2.1))) (y := _law_names) (Nat.le_of_ble_eq_true rfl) ?_
        refine ⟨_, rfl, ?_⟩
        exact ⟨_, rfl, by walk_at "subc"⟩
      refine ⟨_, _, rfl, ?_, ?_⟩
      · refine ws_ctx (Γ' := [.own true ((wLst K yInt) s1.1), .val ((yTup K yStr) _law_names), .val ((yDct (κ := Str) yInt) s1.2.1), .val ((yLst K (yTr K yStr yStr yInt)) s1.2.2), .any, .any, .val ((yPr K (yTup K yStr) (yTup K (yTr K yStr yStr yInt))) _law_actual), .any]) rfl ?_
        refine ws_ret ?_
        refine wx_bl ?_
        exact ⟨_, rfl, rfl, (by first | trivial | exact ⟨rfl, trivial⟩ | exact ⟨rfl, rfl, trivial⟩)⟩
      · refine ws_next ?_
        refine ws_seq ?_
        refine ws_ctx (Γ' := [.own true ((wLst K yInt) s1.1), .val ((yTup K yStr) _law_names), .val ((yDct (κ := Str) yInt) s1.2.1), .val ((yLst K (yTr K yStr yStr yInt)) s1.2.2), .any, .any, .val ((yPr K (yTup K yStr) (yTup K (yTr K yStr yStr yInt))) _law_actual), .any]) rfl ?_
        refine ws_forF (μ := Unit) (τ := (Bool × (List Int))) (yTr K yStr yStr yInt) ?_
        refine wi_tup ?_
        refine wx_op ?_
        refine wx_var rfl ?_
        refine ⟨_, rfl, ?_⟩
        refine wx_int ?_
        refine ⟨_, rfl, ?_⟩
        refine rx_ixT rfl ?_
        refine ⟨_, rfl, ?_⟩
        refine ⟨_, (fun s3 : Unit => [.own true ((wLst K yInt) s1.1), .val ((yTup K yStr) _law_names), .val ((yDct (κ := Str) yInt) s1.2.1), .val ((yLst K (yTr K yStr yStr yInt)) s1.2.2), .any, .any, .val ((yPr K (yTup K yStr) (yTup K (yTr K yStr yStr yInt))) _law_actual), .any]), _law_actual.2, _, _, _, rfl, rfl, by walk_at "subc", fun s3 q2 => ?_, fun s3 => ?_⟩
        · refine wg_name (show 7 < 8 by decide) ?_
          refine ws_ctx (Γ' := [.own true ((wLst K yInt) s1.1), .val ((yTup K yStr) _law_names), .val ((yDct (κ := Str) yInt) s1.2.1), .val ((yLst K (yTr K yStr yStr yInt)) s1.2.2), .any, .any, .val ((yPr K (yTup K yStr) (yTup K (yTr K yStr yStr yInt))) _law_actual), .val ((yTr K yStr yStr yInt) q2)]) rfl ?_
          refine ws_if ?_
          refine wt_or false ?_
          refine wt_not ?_
          refine wt_b ?_
          refine wx_cb ?_
          refine wa_cons ?_
          refine wx_op ?_
          refine wx_var rfl ?_
          refine ⟨_, rfl, ?_⟩
          refine wx_int ?_
          refine ⟨_, rfl, ?_⟩
          refine rx_ixT rfl ?_
          refine ⟨_, rfl, ?_⟩
          refine wa_cons ?_
          refine wx_c (yCls "int") (fun _ _ => rfl) ?_
          refine ⟨_, rfl, ?_⟩
          refine wa_nil ?_
          refine rc_isi (K := K) (t := yInt) (x := q2.2.2) (b := true) rfl ?_
          refine ⟨_, rfl, ?_⟩
          refine ⟨fun _ => ?_, ?_⟩
          · refine wt_b ?_
            refine wx_cb ?_
            refine wa_cons ?_
            refine wx_op ?_
            refine wx_var rfl ?_
            refine ⟨_, rfl, ?_⟩
            refine wx_int ?_
            refine ⟨_, rfl, ?_⟩
            refine rx_ixT rfl ?_
            refine ⟨_, rfl, ?_⟩
            refine wa_cons ?_
            refine wx_c (yCls "bool") (fun _ _ => rfl) ?_
            refine ⟨_, rfl, ?_⟩
            refine wa_nil ?_
            refine rc_isi (K := K) (t := yInt) (x := q2.2.2) (b := false) rfl ?_
            refine ⟨_, rfl, ?_⟩
            exact ⟨rfl, rfl, rfl⟩
          refine ⟨_, _, rfl, ?_, ?_⟩
          · refine ws_ctx (Γ' := [.own true ((wLst K yInt) s1.1), .val ((yTup K yStr) _law_names), .val ((yDct (κ := Str) yInt) s1.2.1), .val ((yLst K (yTr K yStr yStr yInt)) s1.2.2), .any, .any, .val ((yPr K (yTup K yStr) (yTup K (yTr K yStr yStr yInt))) _law_actual), .val ((yTr K yStr yStr yInt) q2)]) rfl ?_
            refine ws_ret ?_
            refine wx_bl ?_
            refine ⟨_, rfl, ?_⟩
            exact ⟨_, rfl, rfl, (by first | trivial | exact ⟨rfl, trivial⟩ | exact ⟨rfl, rfl, trivial⟩)⟩
          · refine ws_next ?_
            exact ⟨_, rfl, by walk_at "subc"⟩
        refine ws_ctx (Γ' := [.own true ((wLst K yInt) s1.1), .val ((yTup K yStr) _law_names), .val ((yDct (κ := Str) yInt) s1.2.1), .val ((yLst K (yTr K yStr yStr yInt)) s1.2.2), .any, .any, .val ((yPr K (yTup K yStr) (yTup K (yTr K yStr yStr yInt))) _law_actual), .any]) rfl ?_
        refine ws_ret ?_
        refine wx_bl ?_
        exact ⟨_, rfl, rfl, (by first | trivial | exact ⟨rfl, trivial⟩ | exact ⟨rfl, rfl, trivial⟩)⟩
def pre__law_ground_right (K : PySem.W.Frag) (A : Nat → Addr) : List Ar → Cl → Prop := fun as d => ∃ (_law_source_here : (List Int)), as = [.io ((wLst K yInt) _law_source_here)] ∧ d = ⟨(Bool × (List Int)), f__law_ground_right _law_source_here, fun r => .val (yBl r.1), fun r => [(wLst K yInt) r.2]⟩
theorem ok__law_ground_right (T : Txt P K mg A D) : FnOk P w K mg base CX0 4 (A 25) (D 25) ["_law_source_here"] (spM A (pre__law_ground_right K A)) := by
  refine T.F__law_ground_right.ok sc__law_ground_right (fun vs H Q E h => ?_) (fun cdv A' outer s H vs Q E hr h => ?_)
  · exact spM_len h fun as d hp => by obtain ⟨_law_source_here, rfl, rfl⟩ := hp; rfl
  · have hu := hu_of hr
    have G__law_draw : FnOk P w K mg base CX0 1 (A 14) (D 14) ["_law_source_here", "_law_limit"] (spM A (pre__law_draw K A)) := ok__law_draw T
    have G_Steps_ground : FnOk P w K mg base CX0 3 (A 1228) (D 1228) ["self", "theory"] (spM A (pre_Steps_ground K A)) := ok_Steps_ground T
    have G__law_same : FnOk P w K mg base CX0 1 (A 20) (D 20) ["_law_actual", "_law_expected"] (spM A (pre__law_same K A)) := ok__law_same T
    refine ⟨_, (pss_cons (ps_setLc (i := 1) (own := [("_law_k", 3)]) (g := gName 3) (tt := tYes) rfl sc__law_ground_right.nd rfl rfl (sw_true rfl rfl rfl (by decide +kernel))  (pi_range1 rfl T.z_range (pa_cons (pe_call G__law_draw (hr.mono (by decide)) rfl T.g__law_draw T.F__law_draw.kp T.b__law_draw .nil pass0 (pa_cons (pv 0) (pa_cons pe_int pa_nil))) pa_nil)) (blkOk_by (N := N__law_ground_right) (sc := defScope (topS 25)) (by decide +kernel)) (fun _ _ _ _ _ => (pg_name (i := 3) sc__law_ground_right.nd rfl (Or.inl rfl))) (fun _ _ _ _ _ => pts_nil) (fun _ _ _ _ _ => (pe_op op_sub (pe_call G__law_draw (hr.mono (by decide)) rfl T.g__law_draw T.F__law_draw.kp T.b__law_draw .nil pass0 (pa_cons (pv 0) (pa_cons pe_int pa_nil))) pe_int)))
      (pss_cons (ps_if (pt_cmpR op_eq (pe_call G__law_draw (hr.mono (by decide)) rfl T.g__law_draw T.F__law_draw.kp T.b__law_draw .nil pass0 (pa_cons (pv 0) (pa_cons pe_int pa_nil))) pe_int (nomark _))
        (pss_one (ps_setLc (i := 1) (own := [("_law_bound_here", 4)]) (g := gName 4) (tt := tYes) rfl sc__law_ground_right.nd rfl rfl (sw_true rfl rfl rfl (by decide +kernel))  (iK_list (K := K) rfl (pv 1)) (blkOk_by (N := N__law_ground_right) (sc := defScope (topS 25)) (by decide +kernel)) (fun _ _ _ _ _ => (pg_name (i := 4) sc__law_ground_right.nd rfl (Or.inl rfl))) (fun _ _ _ _ _ => pts_nil) (fun _ _ _ _ _ => (pe_op op_add (pv 4) pe_int))))
        pss_nil)
      (pss_cons (ps_set (i := 2) sc__law_ground_right.nd rfl (Or.inl rfl) (methO_of (pe_meth (pe_makeP T.mp_Steps rfl T.g_Steps) T.cl_Steps T.M_Steps_ground G_Steps_ground (hr.mono (by decide)) T.b_Steps_ground .nil pass0 (pa_cons (pe_tup (pa_cons (pe_tup pa_nil) (pa_cons (pe_callTy (T := "tuple") (cK_tuple (K := K) rfl) (by rfl) T.z_tuple (by decide +kernel) (pa_cons (pe_lc (own := [("_law_bound_here", 4)]) (g := gName 4) (tt := tYes) rfl sc__law_ground_right.nd (iK_list (K := K) rfl (pv 1)) (blkOk_by (N := N__law_ground_right) (sc := defScope (topS 25)) (by decide +kernel)) (fun _ _ _ _ _ => (pg_name (i := 4) sc__law_ground_right.nd rfl (Or.inl rfl))) (fun _ _ _ _ _ => pts_nil) (fun _ _ _ _ _ => (pe_tup (pa_cons pe_str (pa_cons pe_str (pa_cons (pv 4) pa_nil)))))) pa_nil)) pa_nil))) pa_nil) (ht := ht_call (by decide)))))
      (pss_cons (ps_if (pt_cmpR op_gt (pe_callB (id := "len") (cK_len (K := K) rfl) (by rfl) T.z_len (by decide +kernel) (pa_cons (pe_lc (own := [("_law_bound_here", 4)]) (g := gName 4)  rfl sc__law_ground_right.nd (iK_list (K := K) rfl (pv 1)) (blkOk_by (N := N__law_ground_right) (sc := defScope (topS 25)) (by decide +kernel)) (fun _ _ _ _ _ => (pg_name (i := 4) sc__law_ground_right.nd rfl (Or.inl rfl))) (fun _ _ _ _ _ => (pts_one (pt_cmpR op_lt (pv 4) pe_int (nomark _)))) (fun _ _ _ _ _ => (pv 4))) pa_nil)) pe_int (nomark _))
        (pss_one (ps_ret (pe_cmpR op_isN (pv 2) pe_non (nomark _))))
        pss_nil)
      (pss_one (ps_ret (pe_call G__law_same (hr.mono (by decide)) rfl T.g__law_same T.F__law_same.kp T.b__law_same .nil pass0 (pa_cons (pv 2) (pa_cons pe_dnewK pa_nil))))))))), ?_⟩
    refine fn_run0 h (fun as d hp => ?_) fun as d hp => ?_
    · obtain ⟨_law_source_here, rfl, rfl⟩ := hp; simp
    · obtain ⟨_law_source_here, rfl, rfl⟩ := hp
      refine ⟨_, (show f__law_ground_right _law_source_here = Res.noerr _ from rfl), ?_⟩
      refine ws_seq ?_
      refine ws_ctx (Γ' := [.own true ((wLst K yInt) _law_source_here), .any, .any, .any, .any]) rfl ?_
      refine ws_setL (yLst K yInt) ?_
      refine wx_fz ?_
      refine wx_lcM (K := K) (μ := ((List Int))) yInt yInt (gk_name (by decide)) ?_
      refine wi_rng1 ?_
      refine wa_cons ?_
      refine wx_call ?_
      refine wa_io rfl ?_
      refine wa_cons ?_
      refine wx_int ?_
      refine ⟨_, rfl, ?_⟩
      refine wa_nil ?_
      refine rc_call _ _ _ ⟨_law_source_here, (4 : Int), rfl, rfl⟩ ⟨⟨_, rfl⟩, rfl, trivial⟩ (show List.Nodup ([0] : List Nat) by decide) rfl (.inr fun _ z => by first | exact noerr_ne z | exact (nomatch z)) fun r1 _ => ?_
      refine ⟨_, rfl, ?_⟩
      refine wa_nil ?_
      refine ⟨_, _, rfl, rfl, ?_⟩
      refine ⟨_, (fun s1 : ((List Int)) => [.own true ((wLst K yInt) s1), .any, .any, .any, .any]), (rng 0 (r1.1).toNat), _, _, rfl, rfl, by walk_at "subc", fun s2 q1 => ?_, fun r4 => ?_⟩
      · refine wg_ctx (Γ' := [.own true ((wLst K yInt) s2), .any, .any, .any, .any]) rfl ?_
        refine wg_name (show 3 < 5 by decide) ?_
        refine wt_yes ?_
        refine ⟨_, (s2), (if_pos rfl).symm, by walk_at "subc", ?_⟩
        refine wx_op ?_
        refine wx_call ?_
        refine wa_io rfl ?_
        refine wa_cons ?_
        refine wx_int ?_
        refine ⟨_, rfl, ?_⟩
        refine wa_nil ?_
        refine rc_call _ _ _ ⟨s2, (6 : Int), rfl, rfl⟩ ⟨⟨_, rfl⟩, rfl, trivial⟩ (show List.Nodup ([0] : List Nat) by decide) rfl (.inr fun _ z => by first | exact noerr_ne z | exact (nomatch z)) fun r3 _ => ?_
        refine ⟨_, rfl, ?_⟩
        refine wx_int ?_
        refine ⟨_, rfl, ?_⟩
        refine rx_ari rfl ?_
        exact ⟨_, _, rfl, rfl, by walk_at "subc"⟩
      refine ⟨_, rfl, ?_⟩
      refine ⟨r4.1, _, rfl, show 1 < 5 by decide, rfl, fun _law_bounds => ?_⟩
      refine ws_seq ?_
      refine ws_ctx (Γ' := [.own true ((wLst K yInt) r4.2), .val ((yLst K yInt) _law_bounds), .any, .any, .any]) rfl ?_
      refine ws_blk (fun s3 : ((List Int) × (List Int)) => [.own true ((wLst K yInt) s3.1), .val ((yLst K yInt) s3.2), .any, .any, .any]) rfl ?_ ?_
      · refine ws_if ?_
        refine wt_b ?_
        refine wx_op ?_
        refine wx_call ?_
        refine wa_io rfl ?_
        refine wa_cons ?_
        refine wx_int ?_
        refine ⟨_, rfl, ?_⟩
        refine wa_nil ?_
        refine rc_call _ _ _ ⟨r4.2, (2 : Int), rfl, rfl⟩ ⟨⟨_, rfl⟩, rfl, trivial⟩ (show List.Nodup ([0] : List Nat) by decide) rfl (.inr fun _ z => by first | exact noerr_ne z | exact (nomatch z)) fun r5 _ => ?_
        refine ⟨_, rfl, ?_⟩
        refine wx_int ?_
        refine ⟨_, rfl, ?_⟩
        refine rx_eq ?_
        refine ⟨_, rfl, ?_⟩
        refine ⟨_, _, rfl, ?_, ?_⟩
        · refine ws_ctx (Γ' := [.own true ((wLst K yInt) r5.2), .val ((yLst K yInt) _law_bounds), .any, .any, .any]) rfl ?_
          refine ws_setL (yLst K yInt) ?_
          refine wx_fz ?_
          refine wx_lcA (K := K) yInt yInt (fun q2 => (q2 + (1 : Int))) (gk_name (by decide)) ?_
          refine wi_list ?_
          refine wx_var rfl ?_
          refine ⟨_, rfl, ?_⟩
          refine ⟨_law_bounds, rfl, fun q2 => ?_, ?_⟩
          · refine wg_ctx (Γ' := [.any, .val ((yLst K yInt) _law_bounds), .any, .any, .any]) rfl ?_
            refine wg_name (show 4 < 5 by decide) ?_
            refine wx_op ?_
            refine wx_var rfl ?_
            refine ⟨_, rfl, ?_⟩
            refine wx_int ?_
            refine ⟨_, rfl, ?_⟩
            refine rx_ari rfl ?_
            exact rfl
          refine ⟨_, rfl, ?_⟩
          refine ⟨(_law_bounds.map fun q2 => (q2 + (1 : Int))), _, rfl, show 1 < 5 by decide, rfl, fun _law_bounds => ?_⟩
          exact ⟨_, rfl, by walk_at "subc"⟩
        · refine ws_next ?_
          exact ⟨_, rfl, by walk_at "subc"⟩
      intro s3
      refine ws_seq ?_
      refine ws_ctx (Γ' := [.own true ((wLst K yInt) s3.1), .val ((yLst K yInt) s3.2), .any, .any, .any]) rfl ?_
      refine ws_setL (yOpt (yDct (κ := Str) yInt)) ?_
      refine wx_meth ?_
      refine wx_makeP ?_
      refine ⟨_, rfl, rfl, ?_⟩
      refine wa_cons ?_
      refine wx_tup (K := K) ?_
      refine wa_cons ?_
      refine wx_tup (K := K) ?_
      refine wa_nil ?_
      refine ⟨[], rfl, show 0 ≤ 1000 by decide, ?_⟩
      refine ⟨_, rfl, ?_⟩
      refine wa_cons ?_
      refine wx_cb ?_
      refine wa_cons ?_
      refine wx_fz ?_
      refine wx_lcA (K := K) yInt (yTr K yStr yStr yInt) (fun q3 => (("" : Str), ("" : Str), q3)) (gk_name (by decide)) ?_
      refine wi_list ?_
      refine wx_var rfl ?_
      refine ⟨_, rfl, ?_⟩
      refine ⟨s3.2, rfl, fun q3 => ?_, ?_⟩
      · refine wg_ctx (Γ' := [.any, .val ((yLst K yInt) s3.2), .any, .any, .any]) rfl ?_
        refine wg_name (show 4 < 5 by decide) ?_
        refine wx_tup (K := K) ?_
        refine wa_cons ?_
        refine wx_str ?_
        refine ⟨_, rfl, ?_⟩
        refine wa_cons ?_
        refine wx_str ?_
        refine ⟨_, rfl, ?_⟩
        refine wa_cons ?_
        refine wx_var rfl ?_
        refine ⟨_, rfl, ?_⟩
        refine wa_nil ?_
        refine ⟨[yStr ("" : Str), yStr ("" : Str), yInt q3], rfl, show 3 ≤ 1000 by decide, ?_⟩
        exact rfl
      refine ⟨_, rfl, ?_⟩
      refine ⟨_, rfl, ?_⟩
      refine wa_nil ?_
      refine rc_tuple (pLst K) ?_
      refine ⟨_, rfl, ?_⟩
      refine wa_nil ?_
      refine ⟨[(yTup K yStr) ([] : (List Str)), (yTup K (yTr K yStr yStr yInt)) (s3.2.map fun q3 => (("" : Str), ("" : Str), q3))], rfl, show 2 ≤ 1000 by decide, ?_⟩
      refine ⟨_, rfl, ?_⟩
      refine wa_nil ?_
      refine rc_call _ _ _ ⟨(), (([] : (List Str)), (s3.2.map fun q3 => (("" : Str), ("" : Str), q3))), rfl, rfl⟩ ⟨rfl, rfl, trivial⟩ (show List.Nodup ([] : List Nat) by decide) rfl (.inr fun _ z => by first | exact noerr_ne z | exact (nomatch z)) fun r6 _ => ?_
      refine ⟨r6, _, rfl, show 2 < 5 by decide, rfl, fun _law_actual => ?_⟩
      refine ws_seq ?_
      refine ws_ctx (Γ' := [.own true ((wLst K yInt) s3.1), .val ((yLst K yInt) s3.2), .val ((yOpt (yDct (κ := Str) yInt)) _law_actual), .any, .any]) rfl ?_
      refine ws_if ?_
      refine wt_b ?_
      refine wx_op ?_
      refine wx_cb ?_
      refine wa_cons ?_
      refine wx_fz ?_
      refine wx_lc (K := K) yInt yInt (fun q4 => (decide (q4 < (0 : Int)))) (fun q4 => q4) (gk_name (by decide)) ?_
      refine wi_list ?_
      refine wx_var rfl ?_
      refine ⟨_, rfl, ?_⟩
      refine ⟨s3.2, rfl, fun q4 => ?_, ?_⟩
      · refine wg_ctx (Γ' := [.any, .val ((yLst K yInt) s3.2), .val ((yOpt (yDct (κ := Str) yInt)) _law_actual), .any, .any]) rfl ?_
        refine wg_name (show 4 < 5 by decide) ?_
        refine wt_b ?_
        refine wx_op ?_
        refine wx_var rfl ?_
        refine ⟨_, rfl, ?_⟩
        refine wx_int ?_
        refine ⟨_, rfl, ?_⟩
        refine rx_cmp rfl ?_
        refine ⟨_, rfl, ?_⟩
        refine ⟨rfl, fun _ => ?_⟩
        refine wx_var rfl ?_
        exact rfl
      refine ⟨_, rfl, ?_⟩
      refine ⟨_, rfl, ?_⟩
      refine wa_nil ?_
      refine rc_lenSq (pLst K) ?_
      rw [List.length_map]
      refine ⟨_, rfl, ?_⟩
      refine wx_int ?_
      refine ⟨_, rfl, ?_⟩
      refine rx_cmp rfl ?_
      refine ⟨_, rfl, ?_⟩
      refine ⟨_, _, rfl, ?_, ?_⟩
      · refine ws_ctx (Γ' := [.own true ((wLst K yInt) s3.1), .val ((yLst K yInt) s3.2), .val ((yOpt (yDct (κ := Str) yInt)) _law_actual), .any, .any]) rfl ?_
        refine ws_ret ?_
        refine wx_op ?_
        refine wx_var rfl ?_
        refine ⟨_, rfl, ?_⟩
        refine wx_non ?_
        refine ⟨_, rfl, ?_⟩
        refine rx_isN (t := (yDct (κ := Str) yInt)) (x := _law_actual) (by walk_at "nonn") ?_
        exact ⟨_, rfl, rfl, (by first | trivial | exact ⟨rfl, trivial⟩ | exact ⟨rfl, rfl, trivial⟩)⟩
      · refine ws_next ?_
        refine ws_ctx (Γ' := [.own true ((wLst K yInt) s3.1), .val ((yLst K yInt) s3.2), .val ((yOpt (yDct (κ := Str) yInt)) _law_actual), .any, .any]) rfl ?_
        refine ws_ret ?_
        refine wx_call ?_
        refine wa_cons ?_
        refine wx_unw (yDct (κ := Str) yInt) ?_
        refine wx_var rfl ?_
        refine ⟨_law_actual, _, rfl, rfl, fun r7 => ?_⟩
        refine ⟨_, rfl, ?_⟩
        refine wa_cons ?_
        refine wx_fz ?_
        refine wx_dnew ?_
        refine ⟨_, rfl, ?_⟩
        refine ⟨_, rfl, ?_⟩
        refine wa_nil ?_
        refine rc_call _ _ _ ⟨r7, ([] : (List (Str × Int))), rfl, rfl⟩ ⟨rfl, rfl, trivial⟩ (show List.Nodup ([] : List Nat) by decide) rfl (.inr fun _ z => by first | exact noerr_ne z | exact (nomatch z)) fun r8 _ => ?_
        exact ⟨_, rfl, rfl, (by first | trivial | exact ⟨rfl, trivial⟩ | exact ⟨rfl, rfl, trivial⟩)⟩
def pre__law_first (K : PySem.W.Frag) (A : Nat → Addr) : List Ar → Cl → Prop := fun as d => ∃ (_law_theory_here : ((List Str) × (List (Str × Str × Int)))) (_law_name : Str) (_law_values : (List (Str × Int))), as = [.val ((yPr K (yTup K yStr) (yTup K (yTr K yStr yStr yInt))) _law_theory_here), .val (yStr _law_name), .val ((yDct (κ := Str) yInt) _law_values)] ∧ d = ⟨((Option Int)), f__law_first _law_theory_here _law_name _law_values, fun r => .val ((yOpt yInt) r), fun r => []⟩
theorem ok__law_first (T : Txt P K mg A D) : FnOk P w K mg base CX0 2 (A 26) (D 26) ["_law_theory_here", "_law_name", "_law_values"] (spM A (pre__law_first K A)) := by
  refine T.F__law_first.ok sc__law_first (fun vs H Q E h => ?_) (fun cdv A' outer s H vs Q E hr h => ?_)
  · exact spM_len h fun as d hp => by obtain ⟨_law_theory_here, _law_name, _law_values, rfl, rfl⟩ := hp; rfl
  · have hu := hu_of hr
    have G__law_value : FnOk P w K mg base CX0 1 (A 19) (D 19) ["_law_values", "_law_name"] (spM A (pre__law_value K A)) := ok__law_value T
    refine ⟨_, (pss_cons (ps_set (i := 3) sc__law_first.nd rfl (Or.inl rfl) (pe_lst pa_nil))
      (pss_cons (ps_set (i := 4) sc__law_first.nd rfl (Or.inl rfl) (pe_lst pa_nil))
      (pss_cons (ps_for PassesOwn.never rfl (iK_tup (K := K) rfl (pe_ix (xK_tup (K := K) rfl) (pv 0) pe_int (fun _ _ => rfl))) (pg_name (i := 5) sc__law_first.nd rfl (Or.inl rfl))
        (pss_one (ps_if (pt_cmpR op_eq (pe_ix (xK_tup (K := K) rfl) (pv 5) pe_int (fun _ _ => rfl)) (pv 1) (nomark _))
          (pss_one (ps_expr (pe_bm PySem.F.plainAttrs_list PySem.F.slot_list_append PySem.F.type_list_append mt_append (pv 4) (pa_cons (pe_op op_add (pe_call G__law_value (hr.mono (by decide)) rfl T.g__law_value T.F__law_value.kp T.b__law_value .nil pass0 (pa_cons (pv 2) (pa_cons (pe_ix (xK_tup (K := K) rfl) (pv 5) pe_int (fun _ _ => rfl)) pa_nil))) (pe_ix (xK_tup (K := K) rfl) (pv 5) pe_int (fun _ _ => rfl))) pa_nil))))
          (pss_one (ps_if (pt_cmpR op_eq (pe_ix (xK_tup (K := K) rfl) (pv 5) pe_int (fun _ _ => rfl)) (pv 1) (nomark _))
            (pss_one (ps_expr (pe_bm PySem.F.plainAttrs_list PySem.F.slot_list_append PySem.F.type_list_append mt_append (pv 3) (pa_cons (pe_op op_sub (pe_call G__law_value (hr.mono (by decide)) rfl T.g__law_value T.F__law_value.kp T.b__law_value .nil pass0 (pa_cons (pv 2) (pa_cons (pe_ix (xK_tup (K := K) rfl) (pv 5) pe_int (fun _ _ => rfl)) pa_nil))) (pe_ix (xK_tup (K := K) rfl) (pv 5) pe_int (fun _ _ => rfl))) pa_nil))))
            (pss_one (ps_if (pt_cmpR op_gt (pe_op op_sub (pe_call G__law_value (hr.mono (by decide)) rfl T.g__law_value T.F__law_value.kp T.b__law_value .nil pass0 (pa_cons (pv 2) (pa_cons (pe_ix (xK_tup (K := K) rfl) (pv 5) pe_int (fun _ _ => rfl)) pa_nil))) (pe_call G__law_value (hr.mono (by decide)) rfl T.g__law_value T.F__law_value.kp T.b__law_value .nil pass0 (pa_cons (pv 2) (pa_cons (pe_ix (xK_tup (K := K) rfl) (pv 5) pe_int (fun _ _ => rfl)) pa_nil)))) (pe_ix (xK_tup (K := K) rfl) (pv 5) pe_int (fun _ _ => rfl)) (nomark _))
              (pss_one (ps_ret pe_non))
              pss_nil)))))))
      (pss_cons (ps_if (pt_cmpR op_gt (pe_callB (id := "len") (cK_len (K := K) rfl) (by rfl) T.z_len (by decide +kernel) (pa_cons (pv 3) pa_nil)) pe_int (nomark _))
        (pss_one (ps_set (i := 6) sc__law_first.nd rfl (Or.inl rfl) (pe_callB (id := "max") (cK_max (K := K) rfl rfl) (by rfl) T.z_max (by decide +kernel) (pa_cons (pv 3) pa_nil))))
        (pss_one (ps_if (pt_cmpR op_gt (pe_callB (id := "len") (cK_len (K := K) rfl) (by rfl) T.z_len (by decide +kernel) (pa_cons (pv 4) pa_nil)) pe_int (nomark _))
          (pss_one (ps_set (i := 6) sc__law_first.nd rfl (Or.inl rfl) (pe_callB (id := "min") (cK_min (K := K) rfl rfl) (by rfl) T.z_min (by decide +kernel) (pa_cons (pv 4) pa_nil))))
          (pss_one (ps_set (i := 6) sc__law_first.nd rfl (Or.inl rfl) pe_int)))))
      (pss_cons (ps_for PassesOwn.never rfl (iK_list (K := K) rfl (pv 4)) (pg_name (i := 7) sc__law_first.nd rfl (Or.inl rfl))
        (pss_one (ps_if (pt_cmpR op_gt (pv 6) (pv 7) (nomark _))
          (pss_one (ps_ret pe_non))
          pss_nil)))
      (pss_one (ps_ret (pv 6)))))))), ?_⟩
    refine fn_run0 h (fun as d hp => ?_) fun as d hp => ?_
    · obtain ⟨_law_theory_here, _law_name, _law_values, rfl, rfl⟩ := hp; simp
    · obtain ⟨_law_theory_here, _law_name, _law_values, rfl, rfl⟩ := hp
      refine ⟨_, (show f__law_first _law_theory_here _law_name _law_values = Res.noerr _ from rfl), ?_⟩
      refine ws_seq ?_
      refine ws_ctx (Γ' := [.val ((yPr K (yTup K yStr) (yTup K (yTr K yStr yStr yInt))) _law_theory_here), .val (yStr _law_name), .val ((yDct (κ := Str) yInt) _law_values), .any, .any, .any, .any, .any]) rfl ?_
      refine ws_setO (wLst K yInt) ?_
      refine wx_lst (K := K) ?_
      refine wa_nil ?_
      refine ⟨[], rfl, show 0 ≤ 1000 by decide, ?_⟩
      refine ⟨([] : List Int), _, rfl, show 3 < 8 by decide, rfl, fun _law_lows => ?_⟩
      refine ws_seq ?_
      refine ws_ctx (Γ' := [.val ((yPr K (yTup K yStr) (yTup K (yTr K yStr yStr yInt))) _law_theory_here), .val (yStr _law_name), .val ((yDct (κ := Str) yInt) _law_values), .own false ((wLst K yInt) _law_lows), .any, .any, .any, .any]) rfl ?_
      refine ws_setO (wLst K yInt) ?_
      refine wx_lst (K := K) ?_
      refine wa_nil ?_
      refine ⟨[], rfl, show 0 ≤ 1000 by decide, ?_⟩
      refine ⟨([] : List Int), _, rfl, show 4 < 8 by decide, rfl, fun _law_highs => ?_⟩
      refine ws_seq ?_
      refine ws_ctx (Γ' := [.val ((yPr K (yTup K yStr) (yTup K (yTr K yStr yStr yInt))) _law_theory_here), .val (yStr _law_name), .val ((yDct (κ := Str) yInt) _law_values), .own false ((wLst K yInt) _law_lows), .own false ((wLst K yInt) _law_highs), .any, .any, .any]) rfl ?_
      refine ws_forF (μ := ((List Int) × (List Int))) (τ := ((Option Int))) (yTr K yStr yStr yInt) ?_
      refine wi_tup ?_
      refine wx_op ?_
      refine wx_var rfl ?_
      refine ⟨_, rfl, ?_⟩
      refine wx_int ?_
      refine ⟨_, rfl, ?_⟩
      refine rx_ixT rfl ?_
      refine ⟨_, rfl, ?_⟩
      refine ⟨_, (fun s1 : ((List Int) × (List Int)) => [.val ((yPr K (yTup K yStr) (yTup K (yTr K yStr yStr yInt))) _law_theory_here), .val (yStr _law_name), .val ((yDct (κ := Str) yInt) _law_values), .own false ((wLst K yInt) s1.1), .own false ((wLst K yInt) s1.2), .any, .any, .any]), _law_theory_here.2, _, _, _, rfl, rfl, by walk_at "subc", fun s1 q1 => ?_, fun s1 => ?_⟩
      · refine wg_name (show 5 < 8 by decide) ?_
        refine ws_ctx (Γ' := [.val ((yPr K (yTup K yStr) (yTup K (yTr K yStr yStr yInt))) _law_theory_here), .val (yStr _law_name), .val ((yDct (κ := Str) yInt) _law_values), .own false ((wLst K yInt) s1.1), .own false ((wLst K yInt) s1.2), .val ((yTr K yStr yStr yInt) q1), .any, .any]) rfl ?_
        refine ws_if ?_
        refine wt_b ?_
        refine wx_op ?_
        refine wx_op ?_
        refine wx_var rfl ?_
        refine ⟨_, rfl, ?_⟩
        refine wx_int ?_
        refine ⟨_, rfl, ?_⟩
        refine rx_ixT rfl ?_
        refine ⟨_, rfl, ?_⟩
        refine wx_var rfl ?_
        refine ⟨_, rfl, ?_⟩
        refine rx_eq ?_
        refine ⟨_, rfl, ?_⟩
        refine ⟨_, _, rfl, ?_, ?_⟩
        · refine ws_ctx (Γ' := [.val ((yPr K (yTup K yStr) (yTup K (yTr K yStr yStr yInt))) _law_theory_here), .val (yStr _law_name), .val ((yDct (κ := Str) yInt) _law_values), .own false ((wLst K yInt) s1.1), .own false ((wLst K yInt) s1.2), .val ((yTr K yStr yStr yInt) q1), .any, .any]) rfl ?_
          refine ws_append yInt (xs0 := s1.2) rfl ?_
          refine wx_op ?_
          refine wx_call ?_
          refine wa_cons ?_
          refine wx_var rfl ?_
          refine ⟨_, rfl, ?_⟩
          refine wa_cons ?_
          refine wx_op ?_
          refine wx_var rfl ?_
          refine ⟨_, rfl, ?_⟩
          refine wx_int ?_
          refine ⟨_, rfl, ?_⟩
          refine rx_ixT rfl ?_
          refine ⟨_, rfl, ?_⟩
          refine wa_nil ?_
          refine rc_call _ _ _ ⟨_law_values, q1.2.1, rfl, rfl⟩ ⟨rfl, rfl, trivial⟩ (show List.Nodup ([] : List Nat) by decide) rfl (.inr fun _ z => by first | exact noerr_ne z | exact (nomatch z)) fun r1 _ => ?_
          refine ⟨_, rfl, ?_⟩
          refine wx_op ?_
          refine wx_var rfl ?_
          refine ⟨_, rfl, ?_⟩
          refine wx_int ?_
          refine ⟨_, rfl, ?_⟩
          refine rx_ixT rfl ?_
          refine ⟨_, rfl, ?_⟩
          refine rx_ari rfl ?_
          refine ⟨_, s1.2, (r1 + q1.2.2), _, rfl, rfl, rfl, fun z1 => ?_⟩
          exact ⟨_, rfl, by walk_at "subc"⟩
        · refine ws_ctx (Γ' := [.val ((yPr K (yTup K yStr) (yTup K (yTr K yStr yStr yInt))) _law_theory_here), .val (yStr _law_name), .val ((yDct (κ := Str) yInt) _law_values), .own false ((wLst K yInt) s1.1), .own false ((wLst K yInt) s1.2), .val ((yTr K yStr yStr yInt) q1), .any, .any]) rfl ?_
          refine ws_if ?_
          refine wt_b ?_
          refine wx_op ?_
          refine wx_op ?_
          refine wx_var rfl ?_
          refine ⟨_, rfl, ?_⟩
          refine wx_int ?_
          refine ⟨_, rfl, ?_⟩
          refine rx_ixT rfl ?_
          refine ⟨_, rfl, ?_⟩
          refine wx_var rfl ?_
          refine ⟨_, rfl, ?_⟩
          refine rx_eq ?_
          refine ⟨_, rfl, ?_⟩
          refine ⟨_, _, rfl, ?_, ?_⟩
          · refine ws_ctx (Γ' := [.val ((yPr K (yTup K yStr) (yTup K (yTr K yStr yStr yInt))) _law_theory_here), .val (yStr _law_name), .val ((yDct (κ := Str) yInt) _law_values), .own false ((wLst K yInt) s1.1), .own false ((wLst K yInt) s1.2), .val ((yTr K yStr yStr yInt) q1), .any, .any]) rfl ?_
            refine ws_append yInt (xs0 := s1.1) rfl ?_
            refine wx_op ?_
            refine wx_call ?_
            refine wa_cons ?_
            refine wx_var rfl ?_
            refine ⟨_, rfl, ?_⟩
            refine wa_cons ?_
            refine wx_op ?_
            refine wx_var rfl ?_
            refine ⟨_, rfl, ?_⟩
            refine wx_int ?_
            refine ⟨_, rfl, ?_⟩
            refine rx_ixT rfl ?_
            refine ⟨_, rfl, ?_⟩
            refine wa_nil ?_
            refine rc_call _ _ _ ⟨_law_values, q1.1, rfl, rfl⟩ ⟨rfl, rfl, trivial⟩ (show List.Nodup ([] : List Nat) by decide) rfl (.inr fun _ z => by first | exact noerr_ne z | exact (nomatch z)) fun r2 _ => ?_
            refine ⟨_, rfl, ?_⟩
            refine wx_op ?_
            refine wx_var rfl ?_
            refine ⟨_, rfl, ?_⟩
            refine wx_int ?_
            refine ⟨_, rfl, ?_⟩
            refine rx_ixT rfl ?_
            refine ⟨_, rfl, ?_⟩
            refine rx_ari rfl ?_
            refine ⟨_, s1.1, (r2 - q1.2.2), _, rfl, rfl, rfl, fun z2 => ?_⟩
            exact ⟨_, rfl, by walk_at "subc"⟩
          · refine ws_ctx (Γ' := [.val ((yPr K (yTup K yStr) (yTup K (yTr K yStr yStr yInt))) _law_theory_here), .val (yStr _law_name), .val ((yDct (κ := Str) yInt) _law_values), .own false ((wLst K yInt) s1.1), .own false ((wLst K yInt) s1.2), .val ((yTr K yStr yStr yInt) q1), .any, .any]) rfl ?_
            refine ws_if ?_
            refine wt_b ?_
            refine wx_op ?_
            refine wx_op ?_
            refine wx_call ?_
            refine wa_cons ?_
            refine wx_var rfl ?_
            refine ⟨_, rfl, ?_⟩
            refine wa_cons ?_
            refine wx_op ?_
            refine wx_var rfl ?_
            refine ⟨_, rfl, ?_⟩
            refine wx_int ?_
            refine ⟨_, rfl, ?_⟩
            refine rx_ixT rfl ?_
            refine ⟨_, rfl, ?_⟩
            refine wa_nil ?_
            refine rc_call _ _ _ ⟨_law_values, q1.1, rfl, rfl⟩ ⟨rfl, rfl, trivial⟩ (show List.Nodup ([] : List Nat) by decide) rfl (.inr fun _ z => by first | exact noerr_ne z | exact (nomatch z)) fun r3 _ => ?_
            refine ⟨_, rfl, ?_⟩
            refine wx_call ?_
            refine wa_cons ?_
            refine wx_var rfl ?_
            refine ⟨_, rfl, ?_⟩
            refine wa_cons ?_
            refine wx_op ?_
            refine wx_var rfl ?_
            refine ⟨_, rfl, ?_⟩
            refine wx_int ?_
            refine ⟨_, rfl, ?_⟩
            refine rx_ixT rfl ?_
            refine ⟨_, rfl, ?_⟩
            refine wa_nil ?_
            refine rc_call _ _ _ ⟨_law_values, q1.2.1, rfl, rfl⟩ ⟨rfl, rfl, trivial⟩ (show List.Nodup ([] : List Nat) by decide) rfl (.inr fun _ z => by first | exact noerr_ne z | exact (nomatch z)) fun r4 _ => ?_
            refine ⟨_, rfl, ?_⟩
            refine rx_ari rfl ?_
            refine ⟨_, rfl, ?_⟩
            refine wx_op ?_
            refine wx_var rfl ?_
            refine ⟨_, rfl, ?_⟩
            refine wx_int ?_
            refine ⟨_, rfl, ?_⟩
            refine rx_ixT rfl ?_
            refine ⟨_, rfl, ?_⟩
            refine rx_cmp rfl ?_
            refine ⟨_, rfl, ?_⟩
            refine ⟨_, _, rfl, ?_, ?_⟩
            · refine ws_ctx (Γ' := [.val ((yPr K (yTup K yStr) (yTup K (yTr K yStr yStr yInt))) _law_theory_here), .val (yStr _law_name), .val ((yDct (κ := Str) yInt) _law_values), .own false ((wLst K yInt) s1.1), .own false ((wLst K yInt) s1.2), .val ((yTr K yStr yStr yInt) q1), .any, .any]) rfl ?_
              refine ws_ret ?_
              refine wx_non ?_
              refine ⟨_, rfl, ?_⟩
              exact ⟨_, rfl, rfl, (by first | trivial | exact ⟨rfl, trivial⟩ | exact ⟨rfl, rfl, trivial⟩)⟩
            · refine ws_next ?_
              exact ⟨_, rfl, by walk_at "subc"⟩
      refine ws_seq ?_
      refine ws_ctx (Γ' := [.val ((yPr K (yTup K yStr) (yTup K (yTr K yStr yStr yInt))) _law_theory_here), .val (yStr _law_name), .val ((yDct (κ := Str) yInt) _law_values), .own false ((wLst K yInt) s1.1), .own false ((wLst K yInt) s1.2), .any, .any, .any]) rfl ?_
      refine ws_frz 3 rfl ?_
      refine ws_frz 4 rfl ?_
      refine ws_blk (fun s3 : (Int) => [.val ((yPr K (yTup K yStr) (yTup K (yTr K yStr yStr yInt))) _law_theory_here), .val (yStr _law_name), .val ((yDct (κ := Str) yInt) _law_values), .val ((yLst K yInt) s1.1), .val ((yLst K yInt) s1.2), .any, .val (yInt s3), .any]) rfl ?_ ?_
      · refine ws_if ?_
        refine wt_b ?_
        refine wx_op ?_
        refine wx_cb ?_
        refine wa_cons ?_
        refine wx_var rfl ?_
        refine ⟨_, rfl, ?_⟩
        refine wa_nil ?_
        refine rc_lenSq (pLst K) ?_
        rw [List.length_map]
        refine ⟨_, rfl, ?_⟩
        refine wx_int ?_
        refine ⟨_, rfl, ?_⟩
        refine rx_cmp rfl ?_
        refine ⟨_, rfl, ?_⟩
        refine ⟨_, _, rfl, ?_, ?_⟩
        · refine ws_ctx (Γ' := [.val ((yPr K (yTup K yStr) (yTup K (yTr K yStr yStr yInt))) _law_theory_here), .val (yStr _law_name), .val ((yDct (κ := Str) yInt) _law_values), .val ((yLst K yInt) s1.1), .val ((yLst K yInt) s1.2), .any, .any, .any]) rfl ?_
          refine ws_setL yInt ?_
          refine wx_cb ?_
          refine wa_cons ?_
          refine wx_var rfl ?_
          refine ⟨_, rfl, ?_⟩
          refine wa_nil ?_
          refine rc_max rfl fun r5 => ?_
          refine ⟨r5, _, rfl, show 6 < 8 by decide, rfl, fun _law_value_here => ?_⟩
          exact ⟨_, rfl, by walk_at "subc"⟩
        · refine ws_ctx (Γ' := [.val ((yPr K (yTup K yStr) (yTup K (yTr K yStr yStr yInt))) _law_theory_here), .val (yStr _law_name), .val ((yDct (κ := Str) yInt) _law_values), .val ((yLst K yInt) s1.1), .val ((yLst K yInt) s1.2), .any, .any, .any]) rfl ?_
          refine ws_blk (fun s2 : (Int) => [.val ((yPr K (yTup K yStr) (yTup K (yTr K yStr yStr yInt))) _law_theory_here), .val (yStr _law_name), .val ((yDct (κ := Str) yInt) _law_values), .val ((yLst K yInt) s1.1), .val ((yLst K yInt) s1.2), .any, .val (yInt s2), .any]) rfl ?_ ?_
          · refine ws_if ?_
            refine wt_b ?_
            refine wx_op ?_
            refine wx_cb ?_
            refine wa_cons ?_
            refine wx_var rfl ?_
            refine ⟨_, rfl, ?_⟩
            refine wa_nil ?_
            refine rc_lenSq (pLst K) ?_
            rw [List.length_map]
            refine ⟨_, rfl, ?_⟩
            refine wx_int ?_
            refine ⟨_, rfl, ?_⟩
            refine rx_cmp rfl ?_
            refine ⟨_, rfl, ?_⟩
            refine ⟨_, _, rfl, ?_, ?_⟩
            · refine ws_ctx (Γ' := [.val ((yPr K (yTup K yStr) (yTup K (yTr K yStr yStr yInt))) _law_theory_here), .val (yStr _law_name), .val ((yDct (κ := Str) yInt) _law_values), .val ((yLst K yInt) s1.1), .val ((yLst K yInt) s1.2), .any, .any, .any]) rfl ?_
              refine ws_setL yInt ?_
              refine wx_cb ?_
              refine wa_cons ?_
              refine wx_var rfl ?_
              refine ⟨_, rfl, ?_⟩
              refine wa_nil ?_
              refine rc_min rfl fun r6 => ?_
              refine ⟨r6, _, rfl, show 6 < 8 by decide, rfl, fun _law_value_here => ?_⟩
              exact ⟨_, rfl, by walk_at "subc"⟩
            · refine ws_ctx (Γ' := [.val ((yPr K (yTup K yStr) (yTup K (yTr K yStr yStr yInt))) _law_theory_here), .val (yStr _law_name), .val ((yDct (κ := Str) yInt) _law_values), .val ((yLst K yInt) s1.1), .val ((yLst K yInt) s1.2), .any, .any, .any]) rfl ?_
              refine ws_setL yInt ?_
              refine wx_int ?_
              refine ⟨(0 : Int), _, rfl, show 6 < 8 by decide, rfl, fun _law_value_here => ?_⟩
              exact ⟨_, rfl, by walk_at "subc"⟩
          intro s2
          exact ⟨_, rfl, by walk_at "subc"⟩
      intro s3
      refine ws_seq ?_
      refine ws_ctx (Γ' := [.val ((yPr K (yTup K yStr) (yTup K (yTr K yStr yStr yInt))) _law_theory_here), .val (yStr _law_name), .val ((yDct (κ := Str) yInt) _law_values), .val ((yLst K yInt) s1.1), .val ((yLst K yInt) s1.2), .any, .val (yInt s3), .any]) rfl ?_
      refine ws_forF (μ := Unit) (τ := ((Option Int))) yInt ?_
      refine wi_list ?_
      refine wx_var rfl ?_
      refine ⟨_, rfl, ?_⟩
      refine ⟨_, (fun s4 : Unit => [.val ((yPr K (yTup K yStr) (yTup K (yTr K yStr yStr yInt))) _law_theory_here), .val (yStr _law_name), .val ((yDct (κ := Str) yInt) _law_values), .val ((yLst K yInt) s1.1), .val ((yLst K yInt) s1.2), .any, .val (yInt s3), .any]), s1.2, _, _, _, rfl, rfl, by walk_at "subc", fun s4 q2 => ?_, fun s4 => ?_⟩
      · refine wg_name (show 7 < 8 by decide) ?_
        refine ws_ctx (Γ' := [.val ((yPr K (yTup K yStr) (yTup K (yTr K yStr yStr yInt))) _law_theory_here), .val (yStr _law_name), .val ((yDct (κ := Str) yInt) _law_values), .val ((yLst K yInt) s1.1), .val ((yLst K yInt) s1.2), .any, .val (yInt s3), .val (yInt q2)]) rfl ?_
        refine ws_if ?_
        refine wt_b ?_
        refine wx_op ?_
        refine wx_var rfl ?_
        refine ⟨_, rfl, ?_⟩
        refine wx_var rfl ?_
        refine ⟨_, rfl, ?_⟩
        refine rx_cmp rfl ?_
        refine ⟨_, rfl, ?_⟩
        refine ⟨_, _, rfl, ?_, ?_⟩
        · refine ws_ctx (Γ' := [.val ((yPr K (yTup K yStr) (yTup K (yTr K yStr yStr yInt))) _law_theory_here), .val (yStr _law_name), .val ((yDct (κ := Str) yInt) _law_values), .val ((yLst K yInt) s1.1), .val ((yLst K yInt) s1.2), .any, .val (yInt s3), .val (yInt q2)]) rfl ?_
          refine ws_ret ?_
          refine wx_non ?_
          refine ⟨_, rfl, ?_⟩
          exact ⟨_, rfl, rfl, (by first | trivial | exact ⟨rfl, trivial⟩ | exact ⟨rfl, rfl, trivial⟩)⟩
        · refine ws_next ?_
          exact ⟨_, rfl, by walk_at "subc"⟩
      refine ws_ctx (Γ' := [.val ((yPr K (yTup K yStr) (yTup K (yTr K yStr yStr yInt))) _law_theory_here), .val (yStr _law_name), .val ((yDct (κ := Str) yInt) _law_values), .val ((yLst K yInt) s1.1), .val ((yLst K yInt) s1.2), .any, .val (yInt s3), .any]) rfl ?_
      refine ws_ret ?_
      refine wx_var rfl ?_
      exact ⟨_, rfl, rfl, (by first | trivial | exact ⟨rfl, trivial⟩ | exact ⟨rfl, rfl, trivial⟩)⟩
def pre__law_lifted (K : PySem.W.Frag) (A : Nat → Addr) : List Ar → Cl → Prop := fun as d => ∃ (_law_theory_here : ((List Str) × (List (Str × Str × Int)))) (_law_name : Str) (_law_values : (List (Str × Int))) (_law_expected : (Option Int)), as = [.val ((yPr K (yTup K yStr) (yTup K (yTr K yStr yStr yInt))) _law_theory_here), .val (yStr _law_name), .val ((yDct (κ := Str) yInt) _law_values), .val ((yOpt yInt) _law_expected)] ∧ d = ⟨(Bool), f__law_lifted _law_theory_here _law_name _law_values _law_expected, fun r => .val (yBl r), fun r => []⟩
theorem ok__law_lifted (T : Txt P K mg A D) : FnOk P w K mg base CX0 4 (A 27) (D 27) ["_law_theory_here", "_law_name", "_law_values", "_law_expected"] (spM A (pre__law_lifted K A)) := by
  refine T.F__law_lifted.ok sc__law_lifted (fun vs H Q E h => ?_) (fun cdv A' outer s H vs Q E hr h => ?_)
  · exact spM_len h fun as d hp => by obtain ⟨_law_theory_here, _law_name, _law_values, _law_expected, rfl, rfl⟩ := hp; rfl
  · have hu := hu_of hr
    have G_Steps_lift : FnOk P w K mg base (L2.CX P w) 3 (A 1227) (D 1227) ["self", "theory", "name", "assignment"] (spM A (pre_Steps_lift K A)) := ok_Steps_lift T
    refine ⟨_, (pss_cons (ps_try_as (i := 5) rfl rfl sc__law_lifted.nd rfl rfl ⟨rfl, by decide, .inl T.g_NoSolution⟩ takes0
        (fun W pn xe tk po => (pss_one (ps_set (i := 4) sc__law_lifted.nd rfl (Or.inl rfl) (pe_methO (pe_makeP T.mp_Steps rfl T.g_Steps) T.cl_Steps T.M_Steps_lift G_Steps_lift (hr.mono (by decide)) T.b_Steps_lift .nil (fun σ => passAt tk σ) (pa_cons (pv 0) (pa_cons (pv 1) (pa_cons (pv 2) pa_nil))) (ht := ht_call (by decide))))))
        (fun a oe cls d pn hz hf => (pss_one (ps_ret (pe_and (pe_cmpR op_isN (pv 3) pe_non (nomark _)) (pe_one (pe_callB (id := "isinstance") (call_is0 T.E0_NoSolution hz hf) (by rfl) T.z_isinstance (by decide +kernel) (pa_cons (pv 5) (pa_cons (pe_glob (v := .ref (A 2)) rfl T.g_ShadowError rfl) pa_nil)))))))))
      (pss_cons (ps_if (PW.pt (pw_or (pt_cmpR op_isN (pv 3) pe_non (nomark _)) (pw_or (pt_not (pt_val (pe_callB (id := "isinstance") (cK_isi (K := K) rfl) (by rfl) T.z_isinstance (by decide +kernel) (pa_cons (pv 4) (pa_cons (pe_bltn (v := .ty "int") (u := .type "int") (by rfl) T.z_int (by decide +kernel) rfl) pa_nil))))) (pw_or1 (pt_val (pe_callB (id := "isinstance") (cK_isi (K := K) rfl) (by rfl) T.z_isinstance (by decide +kernel) (pa_cons (pv 4) (pa_cons (pe_bltn (v := .ty "bool") (u := .type "bool") (by rfl) T.z_bool (by decide +kernel) rfl) pa_nil))))))))
        (pss_one (ps_ret pe_bl))
        pss_nil)
      (pss_one (ps_ret (pe_cmpR op_eq (pv 4) (pv 3) (nomark _)))))), ?_⟩
    refine fn_run0 h (fun as d hp => ?_) fun as d hp => ?_
    · obtain ⟨_law_theory_here, _law_name, _law_values, _law_expected, rfl, rfl⟩ := hp; simp
    · obtain ⟨_law_theory_here, _law_name, _law_values, _law_expected, rfl, rfl⟩ := hp
      refine ⟨_, (show f__law_lifted _law_theory_here _law_name _law_values _law_expected = Res.noerr _ from rfl), ?_⟩
      refine ws_seq ?_
      refine ws_ctx (Γ' := [.val ((yPr K (yTup K yStr) (yTup K (yTr K yStr yStr yInt))) _law_theory_here), .val (yStr _law_name), .val ((yDct (κ := Str) yInt) _law_values), .val ((yOpt yInt) _law_expected), .any, .any]) rfl ?_
      apply ws_try (n := 3) (i := 5) (j := 4) yInt rfl
      · intro D9
        refine wx_meth ?_
        refine wx_makeP ?_
        refine ⟨_, rfl, rfl, ?_⟩
        refine wa_cons ?_
        refine wx_var rfl ?_
        refine ⟨_, rfl, ?_⟩
        refine wa_cons ?_
        refine wx_var rfl ?_
        refine ⟨_, rfl, ?_⟩
        refine wa_cons ?_
        refine wx_var rfl ?_
        refine ⟨_, rfl, ?_⟩
        refine wa_nil ?_
        refine rc_call _ _ _ ⟨(), _law_theory_here, _law_name, _law_values, rfl, rfl⟩ ⟨rfl, rfl, rfl, rfl, trivial⟩ (show List.Nodup ([] : List Nat) by decide) rfl (.inl rfl) fun r1 _ => ?_
        exact ⟨rfl, _, rfl, rfl⟩
      · show 4 < 6
        decide
      · show 5 < 6
        decide
      · intro _law_actual
        refine ws_seq ?_
        refine ws_ctx (Γ' := [.val ((yPr K (yTup K yStr) (yTup K (yTr K yStr yStr yInt))) _law_theory_here), .val (yStr _law_name), .val ((yDct (κ := Str) yInt) _law_values), .val ((yOpt yInt) _law_expected), .val (yInt _law_actual), .any]) rfl ?_
        refine ws_if ?_
        refine wt_or ((!true) || false) ?_
        refine wt_b ?_
        refine wx_op ?_
        refine wx_var rfl ?_
        refine ⟨_, rfl, ?_⟩
        refine wx_non ?_
        refine ⟨_, rfl, ?_⟩
        refine rx_isN (t := yInt) (x := _law_expected) (by walk_at "nonn") ?_
        refine ⟨_, rfl, ?_⟩
        refine ⟨fun _ => ?_, ?_⟩
        · refine wt_or false ?_
          refine wt_not ?_
          refine wt_b ?_
          refine wx_cb ?_
          refine wa_cons ?_
          refine wx_var rfl ?_
          refine ⟨_, rfl, ?_⟩
          refine wa_cons ?_
          refine wx_c (yCls "int") (fun _ _ => rfl) ?_
          refine ⟨_, rfl, ?_⟩
          refine wa_nil ?_
          refine rc_isi (K := K) (t := yInt) (x := _law_actual) (b := true) rfl ?_
          refine ⟨_, rfl, ?_⟩
          refine ⟨fun _ => ?_, ?_⟩
          · refine wt_b ?_
            refine wx_cb ?_
            refine wa_cons ?_
            refine wx_var rfl ?_
            refine ⟨_, rfl, ?_⟩
            refine wa_cons ?_
            refine wx_c (yCls "bool") (fun _ _ => rfl) ?_
            refine ⟨_, rfl, ?_⟩
            refine wa_nil ?_
            refine rc_isi (K := K) (t := yInt) (x := _law_actual) (b := false) rfl ?_
            refine ⟨_, rfl, ?_⟩
            exact ⟨rfl, rfl, rfl⟩
          exact ⟨rfl, rfl, rfl⟩
        refine ⟨_, _, rfl, ?_, ?_⟩
        · refine ws_ctx (Γ' := [.val ((yPr K (yTup K yStr) (yTup K (yTr K yStr yStr yInt))) _law_theory_here), .val (yStr _law_name), .val ((yDct (κ := Str) yInt) _law_values), .val ((yOpt yInt) _law_expected), .val (yInt _law_actual), .any]) rfl ?_
          refine ws_ret ?_
          refine wx_bl ?_
          exact ⟨_, rfl, rfl, (by first | trivial | exact ⟨rfl, trivial⟩ | exact ⟨rfl, rfl, trivial⟩)⟩
        · refine ws_next ?_
          refine ws_ctx (Γ' := [.val ((yPr K (yTup K yStr) (yTup K (yTr K yStr yStr yInt))) _law_theory_here), .val (yStr _law_name), .val ((yDct (κ := Str) yInt) _law_values), .val ((yOpt yInt) _law_expected), .val (yInt _law_actual), .any]) rfl ?_
          refine ws_ret ?_
          refine wx_op ?_
          refine wx_var rfl ?_
          refine ⟨_, rfl, ?_⟩
          refine wx_unw yInt ?_
          refine wx_var rfl ?_
          refine ⟨_law_expected, _, rfl, rfl, fun r2 => ?_⟩
          refine ⟨_, rfl, ?_⟩
          refine rx_eq ?_
          exact ⟨_, rfl, rfl, (by first | trivial | exact ⟨rfl, trivial⟩ | exact ⟨rfl, rfl, trivial⟩)⟩
      · exact T.x_NoSolution_NoSolution
      · intro a9
        refine ws_ret ?_
        refine wx_andV true ?_
        refine wx_op ?_
        refine wx_var rfl ?_
        refine ⟨_, rfl, ?_⟩
        refine wx_non ?_
        refine ⟨_, rfl, ?_⟩
        refine rx_isN (t := yInt) (x := _law_expected) (by walk_at "nonn") ?_
        refine ⟨_, rfl, fun _ => ?_, ?_⟩
        · refine wx_cb ?_
          refine wa_cons ?_
          refine wx_var rfl ?_
          refine ⟨_, rfl, ?_⟩
          refine wa_cons ?_
          refine wx_c (pRef (A 2)) (fun _ _ => rfl) ?_
          refine ⟨_, rfl, ?_⟩
          refine wa_nil ?_
          refine rc_is0 (b := true) T.k_NoSolution_ShadowError ?_
          exact ⟨rfl, rfl, rfl⟩
        exact ⟨_, rfl, rfl, (by first | trivial | exact ⟨rfl, trivial⟩ | exact ⟨rfl, rfl, trivial⟩)⟩
def pre__law_lift_right (K : PySem.W.Frag) (A : Nat → Addr) : List Ar → Cl → Prop := fun as d => ∃ (_law_source_here : (List Int)) (_law_theory_here : ((List Str) × (List (Str × Str × Int)))), as = [.io ((wLst K yInt) _law_source_here), .val ((yPr K (yTup K yStr) (yTup K (yTr K yStr yStr yInt))) _law_theory_here)] ∧ d = ⟨(Bool × (List Int)), f__law_lift_right _law_source_here _law_theory_here, fun r => .val (yBl r.1), fun r => [(wLst K yInt) r.2]⟩
theorem ok__law_lift_right (T : Txt P K mg A D) : FnOk P w K mg base CX0 5 (A 28) (D 28) ["_law_source_here", "_law_theory_here"] (spM A (pre__law_lift_right K A)) := by
  refine T.F__law_lift_right.ok sc__law_lift_right (fun vs H Q E h => ?_) (fun cdv A' outer s H vs Q E hr h => ?_)
  · exact spM_len h fun as d hp => by obtain ⟨_law_source_here, _law_theory_here, rfl, rfl⟩ := hp; rfl
  · have hu := hu_of hr
    have G__law_draw : FnOk P w K mg base CX0 1 (A 14) (D 14) ["_law_source_here", "_law_limit"] (spM A (pre__law_draw K A)) := ok__law_draw T
    have G__law_value : FnOk P w K mg base CX0 1 (A 19) (D 19) ["_law_values", "_law_name"] (spM A (pre__law_value K A)) := ok__law_value T
    have G__law_lifted : FnOk P w K mg base CX0 4 (A 27) (D 27) ["_law_theory_here", "_law_name", "_law_values", "_law_expected"] (spM A (pre__law_lifted K A)) := ok__law_lifted T
    have G__law_first : FnOk P w K mg base CX0 2 (A 26) (D 26) ["_law_theory_here", "_law_name", "_law_values"] (spM A (pre__law_first K A)) := ok__law_first T
    refine ⟨_, (pss_cons (ps_for PassesOwn.never rfl (iK_tup (K := K) rfl (pe_ix (xK_tup (K := K) rfl) (pv 1) pe_int (fun _ _ => rfl))) (pg_name (i := 2) sc__law_lift_right.nd rfl (Or.inr rfl))
        (pss_cons (ps_set (i := 3) sc__law_lift_right.nd rfl (Or.inr rfl) pe_dnewK)
        (pss_cons (ps_for PassesOwn.never rfl (iK_tup (K := K) rfl (pe_ix (xK_tup (K := K) rfl) (pv 1) pe_int (fun _ _ => rfl))) (pg_name (i := 4) sc__law_lift_right.nd rfl (Or.inl rfl))
          (pss_one (ps_if (pt_cmpR op_ne (pv 4) (pv 2) (nomark _))
            (pss_one (ps_dput hu (pv 3) (pv 4) (pe_op op_sub (pe_call G__law_draw (hr.mono (by decide)) rfl T.g__law_draw T.F__law_draw.kp T.b__law_draw .nil pass0 (pa_cons (pv 0) (pa_cons pe_int pa_nil))) pe_int) rfl))
            pss_nil)))
        (pss_cons (ps_set (i := 5) sc__law_lift_right.nd rfl (Or.inl rfl) (pe_callTy (T := "list") (cK_list (K := K) rfl) (by rfl) T.z_list (by decide +kernel) (pa_cons (pe_ix (xK_tup (K := K) rfl) (pv 1) pe_int (fun _ _ => rfl)) pa_nil)))
        (pss_cons (ps_if (pt_cmpR op_gt (pe_call G__law_draw (hr.mono (by decide)) rfl T.g__law_draw T.F__law_draw.kp T.b__law_draw .nil pass0 (pa_cons (pv 0) (pa_cons pe_int pa_nil))) pe_int (nomark _))
          (pss_one (ps_setLc (i := 5) (own := [("_law_c", 9)]) (g := gName 9)  rfl sc__law_lift_right.nd rfl rfl (sw_true rfl rfl rfl (by decide +kernel))  (iK_list (K := K) rfl (pv 5)) (blkOk_by (N := N__law_lift_right) (sc := defScope (topS 28)) (by decide +kernel)) (fun _ _ _ _ _ => (pg_name (i := 9) sc__law_lift_right.nd rfl (Or.inl rfl))) (fun _ _ _ _ _ => (pts_one (PW.pt (pw_or (pt_cmpR (oP_in (K := K) rfl hr.units) (pv 2) (pe_slice (sK_tupA (K := K) rfl) (pv 9) po_none (po_some pe_int)) rfl) (pw_or1 (pt_cmpR op_le (pe_op op_sub (pe_call G__law_value (hr.mono (by decide)) rfl T.g__law_value T.F__law_value.kp T.b__law_value .nil pass0 (pa_cons (pv 3) (pa_cons (pe_ix (xK_tup (K := K) rfl) (pv 9) pe_int (fun _ _ => rfl)) pa_nil))) (pe_call G__law_value (hr.mono (by decide)) rfl T.g__law_value T.F__law_value.kp T.b__law_value .nil pass0 (pa_cons (pv 3) (pa_cons (pe_ix (xK_tup (K := K) rfl) (pv 9) pe_int (fun _ _ => rfl)) pa_nil)))) (pe_ix (xK_tup (K := K) rfl) (pv 9) pe_int (fun _ _ => rfl)) (nomark _))))))) (fun _ _ _ _ _ => (pv 9))))
          pss_nil)
        (pss_cons (ps_set (i := 6) sc__law_lift_right.nd rfl (Or.inr rfl) (pe_call G__law_draw (hr.mono (by decide)) rfl T.g__law_draw T.F__law_draw.kp T.b__law_draw .nil pass0 (pa_cons (pv 0) (pa_cons pe_int pa_nil))))
        (pss_cons (ps_if (pt_cmpR op_lt (pv 6) pe_int (nomark _))
          (pss_one (ps_setLc (i := 5) (own := [("_law_c", 9)]) (g := gName 9)  rfl sc__law_lift_right.nd rfl rfl (sw_true rfl rfl rfl (by decide +kernel))  (iK_list (K := K) rfl (pv 5)) (blkOk_by (N := N__law_lift_right) (sc := defScope (topS 28)) (by decide +kernel)) (fun _ _ _ _ _ => (pg_name (i := 9) sc__law_lift_right.nd rfl (Or.inl rfl))) (fun _ _ _ _ _ => (pts_one (pt_cmpR op_ne (pe_ix (xK_tup (K := K) rfl) (pv 9) (pv 6) (fun _ _ => rfl)) (pv 2) (nomark _)))) (fun _ _ _ _ _ => (pv 9))))
          pss_nil)
        (pss_cons (ps_if (pt_cmpR op_eq (pv 6) pe_int (nomark _))
          (pss_one (ps_setLc (i := 5) (own := [("_law_c", 9)]) (g := gName 9)  rfl sc__law_lift_right.nd rfl rfl (sw_true rfl rfl rfl (by decide +kernel))  (iK_list (K := K) rfl (pv 5)) (blkOk_by (N := N__law_lift_right) (sc := defScope (topS 28)) (by decide +kernel)) (fun _ _ _ _ _ => (pg_name (i := 9) sc__law_lift_right.nd rfl (Or.inl rfl))) (fun _ _ _ _ _ => (pts_one (pt_cmpR (oP_nin (K := K) rfl hr.units) (pv 2) (pe_slice (sK_tupA (K := K) rfl) (pv 9) po_none (po_some pe_int)) rfl))) (fun _ _ _ _ _ => (pv 9))))
          pss_nil)
        (pss_cons (ps_set (i := 7) sc__law_lift_right.nd rfl (Or.inl rfl) (pe_tup (pa_cons (pe_ix (xK_tup (K := K) rfl) (pv 1) pe_int (fun _ _ => rfl)) (pa_cons (pe_callTy (T := "tuple") (cK_tuple (K := K) rfl) (by rfl) T.z_tuple (by decide +kernel) (pa_cons (pv 5) pa_nil)) pa_nil))))
        (pss_cons (ps_setLc (i := 8) (own := [("_law_other", 4)]) (g := gName 4) (tt := tYes) rfl sc__law_lift_right.nd rfl rfl (sw_true rfl rfl rfl (by decide +kernel))  (iK_list (K := K) rfl (pe_callB (id := "sorted") (call_sortedD rfl) (by rfl) T.z_sorted (by decide +kernel) (pa_cons (pv 3) pa_nil))) (blkOk_by (N := N__law_lift_right) (sc := defScope (topS 28)) (by decide +kernel)) (fun _ _ _ _ _ => (pg_name (i := 4) sc__law_lift_right.nd rfl (Or.inl rfl))) (fun _ _ _ _ _ => pts_nil) (fun _ _ _ _ _ => (pe_tup (pa_cons (pv 4) (pa_cons (pe_dget hu (pv 3) (pv 4) (fun _ _ => rfl)) pa_nil)))))
        (pss_cons (ps_if (pt_not (pt_val (pe_call G__law_lifted (hr.mono (by decide)) rfl T.g__law_lifted T.F__law_lifted.kp T.b__law_lifted .nil pass0 (pa_cons (pv 7) (pa_cons (pv 2) (pa_cons (pv 3) (pa_cons (pe_call G__law_first (hr.mono (by decide)) rfl T.g__law_first T.F__law_first.kp T.b__law_first .nil pass0 (pa_cons (pv 7) (pa_cons (pv 2) (pa_cons (pv 3) pa_nil)))) pa_nil)))))))
          (pss_one (ps_ret pe_bl))
          pss_nil)
        (pss_one (ps_if (pt_cmpR (oP_ne (K := K) rfl hr.units) (pe_lc (own := [("_law_other", 4)]) (g := gName 4) (tt := tYes) rfl sc__law_lift_right.nd (iK_list (K := K) rfl (pe_callB (id := "sorted") (call_sortedD rfl) (by rfl) T.z_sorted (by decide +kernel) (pa_cons (pv 3) pa_nil))) (blkOk_by (N := N__law_lift_right) (sc := defScope (topS 28)) (by decide +kernel)) (fun _ _ _ _ _ => (pg_name (i := 4) sc__law_lift_right.nd rfl (Or.inl rfl))) (fun _ _ _ _ _ => pts_nil) (fun _ _ _ _ _ => (pe_tup (pa_cons (pv 4) (pa_cons (pe_dget hu (pv 3) (pv 4) (fun _ _ => rfl)) pa_nil))))) (pv 8) (nomark _))
          (pss_one (ps_ret pe_bl))
          pss_nil)))))))))))))
      (pss_one (ps_ret pe_bl))), ?_⟩
    refine fn_run0 h (fun as d hp => ?_) fun as d hp => ?_
    · obtain ⟨_law_source_here, _law_theory_here, rfl, rfl⟩ := hp; simp
    · obtain ⟨_law_source_here, _law_theory_here, rfl, rfl⟩ := hp
      refine ⟨_, (show f__law_lift_right _law_source_here _law_theory_here = Res.noerr _ from rfl), ?_⟩
      refine ws_seq ?_
      refine ws_ctx (Γ' := [.own true ((wLst K yInt) _law_source_here), .val ((yPr K (yTup K yStr) (yTup K (yTr K yStr yStr yInt))) _law_theory_here), .any, .any, .any, .any, .any, .any, .any, .any]) rfl ?_
      refine ws_forF (μ := ((List Int))) (τ := (Bool × (List Int))) yStr ?_
      refine wi_tup ?_
      refine wx_op ?_
      refine wx_var rfl ?_
      refine ⟨_, rfl, ?_⟩
      refine wx_int ?_
      refine ⟨_, rfl, ?_⟩
      refine rx_ixT rfl ?_
      refine ⟨_, rfl, ?_⟩
      refine ⟨_, (fun s1 : ((List Int)) => [.own true ((wLst K yInt) s1), .val ((yPr K (yTup K yStr) (yTup K (yTr K yStr yStr yInt))) _law_theory_here), .any, .any, .any, .any, .any, .any, .any, .any]), _law_theory_here.1, _, _, _, rfl, rfl, by walk_at "subc", fun s1 q1 => ?_, fun s1 => ?_⟩
      · refine wg_name (show 2 < 10 by decide) ?_
        refine ws_seq ?_
        refine ws_ctx (Γ' := [.own true ((wLst K yInt) s1), .val ((yPr K (yTup K yStr) (yTup K (yTr K yStr yStr yInt))) _law_theory_here), .val (yStr q1), .any, .any, .any, .any, .any, .any, .any]) rfl ?_
        refine ws_setO (wDct (κ := Str) yInt) ?_
        refine wx_dnew ?_
        refine ⟨([] : (List (Str × Int))), _, rfl, show 3 < 10 by decide, rfl, fun _law_values => ?_⟩
        refine ws_seq ?_
        refine ws_ctx (Γ' := [.own true ((wLst K yInt) s1), .val ((yPr K (yTup K yStr) (yTup K (yTr K yStr yStr yInt))) _law_theory_here), .val (yStr q1), .own false ((wDct (κ := Str) yInt) _law_values), .any, .any, .any, .any, .any, .any]) rfl ?_
        refine ws_for (μ := ((List Int) × (List (Str × Int)))) yStr ?_
        refine wi_tup ?_
        refine wx_op ?_
        refine wx_var rfl ?_
        refine ⟨_, rfl, ?_⟩
        refine wx_int ?_
        refine ⟨_, rfl, ?_⟩
        refine rx_ixT rfl ?_
        refine ⟨_, rfl, ?_⟩
        refine ⟨_, (fun s2 : ((List Int) × (List (Str × Int))) => [.own true ((wLst K yInt) s2.1), .val ((yPr K (yTup K yStr) (yTup K (yTr K yStr yStr yInt))) _law_theory_here), .val (yStr q1), .own false ((wDct (κ := Str) yInt) s2.2), .any, .any, .any, .any, .any, .any]), _law_theory_here.1, _, _, rfl, rfl, by walk_at "subc", fun s2 q2 => ?_, fun s2 => ?_⟩
        · refine wg_name (show 4 < 10 by decide) ?_
          refine ws_ctx (Γ' := [.own true ((wLst K yInt) s2.1), .val ((yPr K (yTup K yStr) (yTup K (yTr K yStr yStr yInt))) _law_theory_here), .val (yStr q1), .own false ((wDct (κ := Str) yInt) s2.2), .val (yStr q2), .any, .any, .any, .any, .any]) rfl ?_
          refine ws_if ?_
          refine wt_b ?_
          refine wx_op ?_
          refine wx_var rfl ?_
          refine ⟨_, rfl, ?_⟩
          refine wx_var rfl ?_
          refine ⟨_, rfl, ?_⟩
          refine rx_ne ?_
          refine ⟨_, rfl, ?_⟩
          refine ⟨_, _, rfl, ?_, ?_⟩
          · refine ws_ctx (Γ' := [.own true ((wLst K yInt) s2.1), .val ((yPr K (yTup K yStr) (yTup K (yTr K yStr yStr yInt))) _law_theory_here), .val (yStr q1), .own false ((wDct (κ := Str) yInt) s2.2), .val (yStr q2), .any, .any, .any, .any, .any]) rfl ?_
            refine ws_dput (t := yInt) (tk := yStr) ?_
            refine wx_op ?_
            refine wx_call ?_
            refine wa_io rfl ?_
            refine wa_cons ?_
            refine wx_int ?_
            refine ⟨_, rfl, ?_⟩
            refine wa_nil ?_
            refine rc_call _ _ _ ⟨s2.1, (9 : Int), rfl, rfl⟩ ⟨⟨_, rfl⟩, rfl, trivial⟩ (show List.Nodup ([0] : List Nat) by decide) rfl (.inr fun _ z => by first | exact noerr_ne z | exact (nomatch z)) fun r1 _ => ?_
            refine ⟨_, rfl, ?_⟩
            refine wx_int ?_
            refine ⟨_, rfl, ?_⟩
            refine rx_ari rfl ?_
            refine ⟨(r1.1 - (4 : Int)), rfl, ⟨_, _, rfl⟩, ?_⟩
            refine wx_var rfl ?_
            refine ⟨_, q2, _, s2.2, rfl, rfl, rfl, fun d1 => ?_⟩
            exact ⟨_, rfl, by walk_at "subc"⟩
          · refine ws_next ?_
            exact ⟨_, rfl, by walk_at "subc"⟩
        refine ws_seq ?_
        refine ws_ctx (Γ' := [.own true ((wLst K yInt) s2.1), .val ((yPr K (yTup K yStr) (yTup K (yTr K yStr yStr yInt))) _law_theory_here), .val (yStr q1), .own false ((wDct (κ := Str) yInt) s2.2), .any, .any, .any, .any, .any, .any]) rfl ?_
        refine ws_setL (yLst K (yTr K yStr yStr yInt)) ?_
        refine wx_fz ?_
        refine wx_cb ?_
        refine wa_cons ?_
        refine wx_op ?_
        refine wx_var rfl ?_
        refine ⟨_, rfl, ?_⟩
        refine wx_int ?_
        refine ⟨_, rfl, ?_⟩
        refine rx_ixT rfl ?_
        refine ⟨_, rfl, ?_⟩
        refine wa_nil ?_
        refine rc_list (pTup K) ?_
        refine ⟨_, rfl, ?_⟩
        refine ⟨_law_theory_here.2, _, rfl, show 5 < 10 by decide, rfl, fun _law_given => ?_⟩
        refine ws_seq ?_
        refine ws_ctx (Γ' := [.own true ((wLst K yInt) s2.1), .val ((yPr K (yTup K yStr) (yTup K (yTr K yStr yStr yInt))) _law_theory_here), .val (yStr q1), .own false ((wDct (κ := Str) yInt) s2.2), .any, .val ((yLst K (yTr K yStr yStr yInt)) _law_given), .any, .any, .any, .any]) rfl ?_
        refine ws_frz 3 rfl ?_
        refine ws_blk (fun s4 : ((List Int) × (List (Str × Str × Int))) => [.own true ((wLst K yInt) s4.1), .val ((yPr K (yTup K yStr) (yTup K (yTr K yStr yStr yInt))) _law_theory_here), .val (yStr q1), .val ((yDct (κ := Str) yInt) s2.2), .any, .val ((yLst K (yTr K yStr yStr yInt)) s4.2), .any, .any, .any, .any]) rfl ?_ ?_
        · refine ws_if ?_
          refine wt_b ?_
          refine wx_op ?_
          refine wx_call ?_
          refine wa_io rfl ?_
          refine wa_cons ?_
          refine wx_int ?_
          refine ⟨_, rfl, ?_⟩
          refine wa_nil ?_
          refine rc_call _ _ _ ⟨s2.1, (4 : Int), rfl, rfl⟩ ⟨⟨_, rfl⟩, rfl, trivial⟩ (show List.Nodup ([0] : List Nat) by decide) rfl (.inr fun _ z => by first | exact noerr_ne z | exact (nomatch z)) fun r2 _ => ?_
          refine ⟨_, rfl, ?_⟩
          refine wx_int ?_
          refine ⟨_, rfl, ?_⟩
          refine rx_cmp rfl ?_
          refine ⟨_, rfl, ?_⟩
          refine ⟨_, _, rfl, ?_, ?_⟩
          · refine ws_ctx (Γ' := [.own true ((wLst K yInt) r2.2), .val ((yPr K (yTup K yStr) (yTup K (yTr K yStr yStr yInt))) _law_theory_here), .val (yStr q1), .val ((yDct (κ := Str) yInt) s2.2), .any, .val ((yLst K (yTr K yStr yStr yInt)) _law_given), .any, .any, .any, .any]) rfl ?_
            refine ws_setL (yLst K (yTr K yStr yStr yInt)) ?_
            refine wx_fz ?_
            refine wx_lcU (K := K) (yTr K yStr yStr yInt) (yTr K yStr yStr yInt) (gk_name (by decide)) ?_
            refine wi_list ?_
            refine wx_var rfl ?_
            refine ⟨_, rfl, ?_⟩
            refine ⟨_, _law_given, _, rfl, rfl, fun q3 => ?_, fun r6 => ?_⟩
            · refine wg_ctx (Γ' := [.any, .val ((yPr K (yTup K yStr) (yTup K (yTr K yStr yStr yInt))) _law_theory_here), .val (yStr q1), .val ((yDct (κ := Str) yInt) s2.2), .any, .val ((yLst K (yTr K yStr yStr yInt)) _law_given), .any, .any, .any, .any]) rfl ?_
              refine wg_name (show 9 < 10 by decide) ?_
              refine wt_orM (μ := Unit) ?_
              refine wt_b ?_
              refine wx_op ?_
              refine wx_var rfl ?_
              refine ⟨_, rfl, ?_⟩
              refine wx_slT ?_
              refine wx_var rfl ?_
              refine ⟨_, rfl, ?_⟩
              refine wo_no ?_
              refine wo_some ?_
              refine wx_int ?_
              refine ⟨_, rfl, ?_⟩
              refine ⟨_, rfl, ?_⟩
              refine rx_inD (K := K) (t := yStr) (x := q1) (ys := [q3.1, q3.2.1]) (pTup K) (Nat.le_of_ble_eq_true rfl) ?_
              refine ⟨_, rfl, ?_⟩
              refine ⟨(fun s3 : Unit => [.any, .val ((yPr K (yTup K yStr) (yTup K (yTr K yStr yStr yInt))) _law_theory_here), .val (yStr q1), .val ((yDct (κ := Str) yInt) s2.2), .any, .val ((yLst K (yTr K yStr yStr yInt)) _law_given), .any, .any, .any, .val ((yTr K yStr yStr yInt) q3)]), _, (), _, rfl, by walk_at "subc", fun _ => ?_, fun r5 => ?_⟩
              · refine wt_b ?_
                refine wx_op ?_
                refine wx_op ?_
                refine wx_call ?_
                refine wa_cons ?_
                refine wx_var rfl ?_
                refine ⟨_, rfl, ?_⟩
                refine wa_cons ?_
                refine wx_op ?_
                refine wx_var rfl ?_
                refine ⟨_, rfl, ?_⟩
                refine wx_int ?_
                refine ⟨_, rfl, ?_⟩
                refine rx_ixT rfl ?_
                refine ⟨_, rfl, ?_⟩
                refine wa_nil ?_
                refine rc_call _ _ _ ⟨s2.2, q3.1, rfl, rfl⟩ ⟨rfl, rfl, trivial⟩ (show List.Nodup ([] : List Nat) by decide) rfl (.inr fun _ z => by first | exact noerr_ne z | exact (nomatch z)) fun r3 _ => ?_
                refine ⟨_, rfl, ?_⟩
                refine wx_call ?_
                refine wa_cons ?_
                refine wx_var rfl ?_
                refine ⟨_, rfl, ?_⟩
                refine wa_cons ?_
                refine wx_op ?_
                refine wx_var rfl ?_
                refine ⟨_, rfl, ?_⟩
                refine wx_int ?_
                refine ⟨_, rfl, ?_⟩
                refine rx_ixT rfl ?_
                refine ⟨_, rfl, ?_⟩
                refine wa_nil ?_
                refine rc_call _ _ _ ⟨s2.2, q3.2.1, rfl, rfl⟩ ⟨rfl, rfl, trivial⟩ (show List.Nodup ([] : List Nat) by decide) rfl (.inr fun _ z => by first | exact noerr_ne z | exact (nomatch z)) fun r4 _ => ?_
                refine ⟨_, rfl, ?_⟩
                refine rx_ari rfl ?_
                refine ⟨_, rfl, ?_⟩
                refine wx_op ?_
                refine wx_var rfl ?_
                refine ⟨_, rfl, ?_⟩
                refine wx_int ?_
                refine ⟨_, rfl, ?_⟩
                refine rx_ixT rfl ?_
                refine ⟨_, rfl, ?_⟩
                refine rx_cmp rfl ?_
                refine ⟨_, rfl, ?_⟩
                exact ⟨_, rfl, by walk_at "subc"⟩
              refine ⟨_, rfl, ?_⟩
              refine wx_var rfl ?_
              exact ⟨_, rfl, rfl⟩
            refine ⟨_, rfl, ?_⟩
            refine ⟨r6, _, rfl, show 5 < 10 by decide, rfl, fun _law_given => ?_⟩
            exact ⟨_, rfl, by walk_at "subc"⟩
          · refine ws_next ?_
            exact ⟨_, rfl, by walk_at "subc"⟩
        intro s4
        refine ws_seq ?_
        refine ws_ctx (Γ' := [.own true ((wLst K yInt) s4.1), .val ((yPr K (yTup K yStr) (yTup K (yTr K yStr yStr yInt))) _law_theory_here), .val (yStr q1), .val ((yDct (κ := Str) yInt) s2.2), .any, .val ((yLst K (yTr K yStr yStr yInt)) s4.2), .any, .any, .any, .any]) rfl ?_
        refine ws_setL yInt ?_
        refine wx_call ?_
        refine wa_io rfl ?_
        refine wa_cons ?_
        refine wx_int ?_
        refine ⟨_, rfl, ?_⟩
        refine wa_nil ?_
        refine rc_call _ _ _ ⟨s4.1, (6 : Int), rfl, rfl⟩ ⟨⟨_, rfl⟩, rfl, trivial⟩ (show List.Nodup ([0] : List Nat) by decide) rfl (.inr fun _ z => by first | exact noerr_ne z | exact (nomatch z)) fun r7 _ => ?_
        refine ⟨r7.1, _, rfl, show 6 < 10 by decide, rfl, fun _law_side => ?_⟩
        refine ws_seq ?_
        refine ws_ctx (Γ' := [.own true ((wLst K yInt) r7.2), .val ((yPr K (yTup K yStr) (yTup K (yTr K yStr yStr yInt))) _law_theory_here), .val (yStr q1), .val ((yDct (κ := Str) yInt) s2.2), .any, .val ((yLst K (yTr K yStr yStr yInt)) s4.2), .val (yInt _law_side), .any, .any, .any]) rfl ?_
        refine ws_blk (fun s5 : ((List (Str × Str × Int))) => [.own true ((wLst K yInt) r7.2), .val ((yPr K (yTup K yStr) (yTup K (yTr K yStr yStr yInt))) _law_theory_here), .val (yStr q1), .val ((yDct (κ := Str) yInt) s2.2), .any, .val ((yLst K (yTr K yStr yStr yInt)) s5), .val (yInt _law_side), .any, .any, .any]) rfl ?_ ?_
        · refine ws_if ?_
          refine wt_b ?_
          refine wx_op ?_
          refine wx_var rfl ?_
          refine ⟨_, rfl, ?_⟩
          refine wx_int ?_
          refine ⟨_, rfl, ?_⟩
          refine rx_cmp rfl ?_
          refine ⟨_, rfl, ?_⟩
          refine ⟨_, _, rfl, ?_, ?_⟩
          · refine ws_ctx (Γ' := [.own true ((wLst K yInt) r7.2), .val ((yPr K (yTup K yStr) (yTup K (yTr K yStr yStr yInt))) _law_theory_here), .val (yStr q1), .val ((yDct (κ := Str) yInt) s2.2), .any, .val ((yLst K (yTr K yStr yStr yInt)) s4.2), .val (yInt _law_side), .any, .any, .any]) rfl ?_
            refine ws_setL (yLst K (yTr K yStr yStr yInt)) ?_
            refine wx_fz ?_
            refine wx_lcU (K := K) (yTr K yStr yStr yInt) (yTr K yStr yStr yInt) (gk_name (by decide)) ?_
            refine wi_list ?_
            refine wx_var rfl ?_
            refine ⟨_, rfl, ?_⟩
            refine ⟨_, s4.2, _, rfl, rfl, fun q4 => ?_, fun r9 => ?_⟩
            · refine wg_ctx (Γ' := [.any, .val ((yPr K (yTup K yStr) (yTup K (yTr K yStr yStr yInt))) _law_theory_here), .val (yStr q1), .val ((yDct (κ := Str) yInt) s2.2), .any, .val ((yLst K (yTr K yStr yStr yInt)) s4.2), .val (yInt _law_side), .any, .any, .any]) rfl ?_
              refine wg_name (show 9 < 10 by decide) ?_
              refine wt_b ?_
              refine wx_op ?_
              refine wx_op ?_
              refine wx_var rfl ?_
              refine ⟨_, rfl, ?_⟩
              refine wx_var rfl ?_
              refine ⟨_, rfl, ?_⟩
              refine rx_ixTs (K := K) (t := yStr) (xs := [q4.1, q4.2.1]) [yInt q4.2.2] rfl fun r8 => ?_
              refine ⟨_, rfl, ?_⟩
              refine wx_var rfl ?_
              refine ⟨_, rfl, ?_⟩
              refine rx_ne ?_
              refine ⟨_, rfl, ?_⟩
              refine ⟨_, rfl, ?_⟩
              refine wx_var rfl ?_
              exact ⟨_, rfl, rfl⟩
            refine ⟨_, rfl, ?_⟩
            refine ⟨r9, _, rfl, show 5 < 10 by decide, rfl, fun _law_given => ?_⟩
            exact ⟨_, rfl, by walk_at "subc"⟩
          · refine ws_next ?_
            exact ⟨_, rfl, by walk_at "subc"⟩
        intro s5
        refine ws_seq ?_
        refine ws_ctx (Γ' := [.own true ((wLst K yInt) r7.2), .val ((yPr K (yTup K yStr) (yTup K (yTr K yStr yStr yInt))) _law_theory_here), .val (yStr q1), .val ((yDct (κ := Str) yInt) s2.2), .any, .val ((yLst K (yTr K yStr yStr yInt)) s5), .val (yInt _law_side), .any, .any, .any]) rfl ?_
        refine ws_blk (fun s6 : ((List (Str × Str × Int))) => [.own true ((wLst K yInt) r7.2), .val ((yPr K (yTup K yStr) (yTup K (yTr K yStr yStr yInt))) _law_theory_here), .val (yStr q1), .val ((yDct (κ := Str) yInt) s2.2), .any, .val ((yLst K (yTr K yStr yStr yInt)) s6), .val (yInt _law_side), .any, .any, .any]) rfl ?_ ?_
        · refine ws_if ?_
          refine wt_b ?_
          refine wx_op ?_
          refine wx_var rfl ?_
          refine ⟨_, rfl, ?_⟩
          refine wx_int ?_
          refine ⟨_, rfl, ?_⟩
          refine rx_eq ?_
          refine ⟨_, rfl, ?_⟩
          refine ⟨_, _, rfl, ?_, ?_⟩
          · refine ws_ctx (Γ' := [.own true ((wLst K yInt) r7.2), .val ((yPr K (yTup K yStr) (yTup K (yTr K yStr yStr yInt))) _law_theory_here), .val (yStr q1), .val ((yDct (κ := Str) yInt) s2.2), .any, .val ((yLst K (yTr K yStr yStr yInt)) s5), .val (yInt _law_side), .any, .any, .any]) rfl ?_
            refine ws_setL (yLst K (yTr K yStr yStr yInt)) ?_
            refine wx_fz ?_
            refine wx_lc (K := K) (yTr K yStr yStr yInt) (yTr K yStr yStr yInt) (fun q5 => (!decide (q1 ∈ [q5.1, q5.2.1]))) (fun q5 => q5) (gk_name (by decide)) ?_
            refine wi_list ?_
            refine wx_var rfl ?_
            refine ⟨_, rfl, ?_⟩
            refine ⟨s5, rfl, fun q5 => ?_, ?_⟩
            · refine wg_ctx (Γ' := [.any, .val ((yPr K (yTup K yStr) (yTup K (yTr K yStr yStr yInt))) _law_theory_here), .val (yStr q1), .val ((yDct (κ := Str) yInt) s2.2), .any, .val ((yLst K (yTr K yStr yStr yInt)) s5), .val (yInt _law_side), .any, .any, .any]) rfl ?_
              refine wg_name (show 9 < 10 by decide) ?_
              refine wt_b ?_
              refine wx_op ?_
              refine wx_var rfl ?_
              refine ⟨_, rfl, ?_⟩
              refine wx_slT ?_
              refine wx_var rfl ?_
              refine ⟨_, rfl, ?_⟩
              refine wo_no ?_
              refine wo_some ?_
              refine wx_int ?_
              refine ⟨_, rfl, ?_⟩
              refine ⟨_, rfl, ?_⟩
              refine rx_ninD (K := K) (t := yStr) (x := q1) (ys := [q5.1, q5.2.1]) (pTup K) (Nat.le_of_ble_eq_true rfl) ?_
              refine ⟨_, rfl, ?_⟩
              refine ⟨rfl, fun _ => ?_⟩
              refine wx_var rfl ?_
              exact rfl
            refine ⟨_, rfl, ?_⟩
            refine ⟨((s5.filter fun q5 => (!decide (q1 ∈ [q5.1, q5.2.1]))).map fun q5 => q5), _, rfl, show 5 < 10 by decide, rfl, fun _law_given => ?_⟩
            exact ⟨_, rfl, by walk_at "subc"⟩
          · refine ws_next ?_
            exact ⟨_, rfl, by walk_at "subc"⟩
        intro s6
        refine ws_seq ?_
        refine ws_ctx (Γ' := [.own true ((wLst K yInt) r7.2), .val ((yPr K (yTup K yStr) (yTup K (yTr K yStr yStr yInt))) _law_theory_here), .val (yStr q1), .val ((yDct (κ := Str) yInt) s2.2), .any, .val ((yLst K (yTr K yStr yStr yInt)) s6), .val (yInt _law_side), .any, .any, .any]) rfl ?_
        refine ws_setL (yPr K (yTup K yStr) (yTup K (yTr K yStr yStr yInt))) ?_
        refine wx_tup (K := K) ?_
        refine wa_cons ?_
        refine wx_op ?_
        refine wx_var rfl ?_
        refine ⟨_, rfl, ?_⟩
        refine wx_int ?_
        refine ⟨_, rfl, ?_⟩
        refine rx_ixT rfl ?_
        refine ⟨_, rfl, ?_⟩
        refine wa_cons ?_
        refine wx_cb ?_
        refine wa_cons ?_
        refine wx_var rfl ?_
        refine ⟨_, rfl, ?_⟩
        refine wa_nil ?_
        refine rc_tuple (pLst K) ?_
        refine ⟨_, rfl, ?_⟩
        refine wa_nil ?_
        refine ⟨[(yTup K yStr) _law_theory_here.1, (yTup K (yTr K yStr yStr yInt)) s6], rfl, show 2 ≤ 1000 by decide, ?_⟩
        refine ⟨(_law_theory_here.1, s6), _, rfl, show 7 < 10 by decide, rfl, fun _law_asked => ?_⟩
        refine ws_seq ?_
        refine ws_ctx (Γ' := [.own true ((wLst K yInt) r7.2), .val ((yPr K (yTup K yStr) (yTup K (yTr K yStr yStr yInt))) _law_theory_here), .val (yStr q1), .val ((yDct (κ := Str) yInt) s2.2), .any, .val ((yLst K (yTr K yStr yStr yInt)) s6), .val (yInt _law_side), .val ((yPr K (yTup K yStr) (yTup K (yTr K yStr yStr yInt))) _law_asked), .any, .any]) rfl ?_
        refine ws_setL (yLst K (yPr K yStr yInt)) ?_
        refine wx_fz ?_
        refine wx_lcU (K := K) yStr (yPr K yStr yInt) (gk_name (by decide)) ?_
        refine wi_list ?_
        refine wx_fz ?_
        refine wx_cb ?_
        refine wa_cons ?_
        refine wx_var rfl ?_
        refine ⟨_, rfl, ?_⟩
        refine wa_nil ?_
        refine rc_sortD (K := K) (xs := dkeys s2.2) kpl_keysS rfl ?_
        refine ⟨_, rfl, ?_⟩
        refine ⟨_, rfl, ?_⟩
        refine ⟨_, (sortS (dkeys s2.2)), _, rfl, rfl, fun q6 => ?_, fun r12 => ?_⟩
        · refine wg_ctx (Γ' := [.any, .val ((yPr K (yTup K yStr) (yTup K (yTr K yStr yStr yInt))) _law_theory_here), .val (yStr q1), .val ((yDct (κ := Str) yInt) s2.2), .any, .val ((yLst K (yTr K yStr yStr yInt)) s6), .val (yInt _law_side), .val ((yPr K (yTup K yStr) (yTup K (yTr K yStr yStr yInt))) _law_asked), .any, .any]) rfl ?_
          refine wg_name (show 4 < 10 by decide) ?_
          refine wt_yes ?_
          refine ⟨_, (if_pos rfl).symm, ?_⟩
          refine wx_tup (K := K) ?_
          refine wa_cons ?_
          refine wx_var rfl ?_
          refine ⟨_, rfl, ?_⟩
          refine wa_cons ?_
          refine wx_dget (t := yInt) (tk := yStr) ?_
          refine wx_var rfl ?_
          refine ⟨s2.2, rfl, ?_⟩
          refine wx_var rfl ?_
          refine ⟨_, _, rfl, rfl, fun r11 => ?_⟩
          refine ⟨_, rfl, ?_⟩
          refine wa_nil ?_
          refine ⟨[yStr q6, yInt r11], rfl, show 2 ≤ 1000 by decide, ?_⟩
          exact ⟨_, rfl, rfl⟩
        refine ⟨_, rfl, ?_⟩
        refine ⟨r12, _, rfl, show 8 < 10 by decide, rfl, fun _law_before => ?_⟩
        refine ws_seq ?_
        refine ws_ctx (Γ' := [.own true ((wLst K yInt) r7.2), .val ((yPr K (yTup K yStr) (yTup K (yTr K yStr yStr yInt))) _law_theory_here), .val (yStr q1), .val ((yDct (κ := Str) yInt) s2.2), .any, .val ((yLst K (yTr K yStr yStr yInt)) s6), .val (yInt _law_side), .val ((yPr K (yTup K yStr) (yTup K (yTr K yStr yStr yInt))) _law_asked), .val ((yLst K (yPr K yStr yInt)) _law_before), .any]) rfl ?_
        refine ws_if ?_
        refine wt_not ?_
        refine wt_b ?_
        refine wx_call ?_
        refine wa_cons ?_
        refine wx_var rfl ?_
        refine ⟨_, rfl, ?_⟩
        refine wa_cons ?_
        refine wx_var rfl ?_
        refine ⟨_, rfl, ?_⟩
        refine wa_cons ?_
        refine wx_var rfl ?_
        refine ⟨_, rfl, ?_⟩
        refine wa_cons ?_
        refine wx_call ?_
        refine wa_cons ?_
        refine wx_var rfl ?_
        refine ⟨_, rfl, ?_⟩
        refine wa_cons ?_
        refine wx_var rfl ?_
        refine ⟨_, rfl, ?_⟩
        refine wa_cons ?_
        refine wx_var rfl ?_
        refine ⟨_, rfl, ?_⟩
        refine wa_nil ?_
        refine rc_call _ _ _ ⟨_law_asked, q1, s2.2, rfl, rfl⟩ ⟨rfl, rfl, rfl, trivial⟩ (show List.Nodup ([] : List Nat) by decide) rfl (.inr fun _ z => by first | exact noerr_ne z | exact (nomatch z)) fun r13 _ => ?_
        refine ⟨_, rfl, ?_⟩
        refine wa_nil ?_
        refine rc_call _ _ _ ⟨_law_asked, q1, s2.2, r13, rfl, rfl⟩ ⟨rfl, rfl, rfl, rfl, trivial⟩ (show List.Nodup ([] : List Nat) by decide) rfl (.inr fun _ z => by first | exact noerr_ne z | exact (nomatch z)) fun r14 _ => ?_
        refine ⟨_, rfl, ?_⟩
        refine ⟨_, _, rfl, ?_, ?_⟩
        · refine ws_ctx (Γ' := [.own true ((wLst K yInt) r7.2), .val ((yPr K (yTup K yStr) (yTup K (yTr K yStr yStr yInt))) _law_theory_here), .val (yStr q1), .val ((yDct (κ := Str) yInt) s2.2), .any, .val ((yLst K (yTr K yStr yStr yInt)) s6), .val (yInt _law_side), .val ((yPr K (yTup K yStr) (yTup K (yTr K yStr yStr yInt))) _law_asked), .val ((yLst K (yPr K yStr yInt)) _law_before), .any]) rfl ?_
          refine ws_ret ?_
          refine wx_bl ?_
          refine ⟨_, rfl, ?_⟩
          exact ⟨_, rfl, rfl, (by first | trivial | exact ⟨rfl, trivial⟩ | exact ⟨rfl, rfl, trivial⟩)⟩
        · refine ws_next ?_
          refine ws_ctx (Γ' := [.own true ((wLst K yInt) r7.2), .val ((yPr K (yTup K yStr) (yTup K (yTr K yStr yStr yInt))) _law_theory_here), .val (yStr q1), .val ((yDct (κ := Str) yInt) s2.2), .any, .val ((yLst K (yTr K yStr yStr yInt)) s6), .val (yInt _law_side), .val ((yPr K (yTup K yStr) (yTup K (yTr K yStr yStr yInt))) _law_asked), .val ((yLst K (yPr K yStr yInt)) _law_before), .any]) rfl ?_
          refine ws_if ?_
          refine wt_b ?_
          refine wx_op ?_
          refine wx_fz ?_
          refine wx_lcU (K := K) yStr (yPr K yStr yInt) (gk_name (by decide)) ?_
          refine wi_list ?_
          refine wx_fz ?_
          refine wx_cb ?_
          refine wa_cons ?_
          refine wx_var rfl ?_
          refine ⟨_, rfl, ?_⟩
          refine wa_nil ?_
          refine rc_sortD (K := K) (xs := dkeys s2.2) kpl_keysS rfl ?_
          refine ⟨_, rfl, ?_⟩
          refine ⟨_, rfl, ?_⟩
          refine ⟨_, (sortS (dkeys s2.2)), _, rfl, rfl, fun q7 => ?_, fun r17 => ?_⟩
          · refine wg_ctx (Γ' := [.any, .val ((yPr K (yTup K yStr) (yTup K (yTr K yStr yStr yInt))) _law_theory_here), .val (yStr q1), .val ((yDct (κ := Str) yInt) s2.2), .any, .val ((yLst K (yTr K yStr yStr yInt)) s6), .val (yInt _law_side), .val ((yPr K (yTup K yStr) (yTup K (yTr K yStr yStr yInt))) _law_asked), .val ((yLst K (yPr K yStr yInt)) _law_before), .any]) rfl ?_
            refine wg_name (show 4 < 10 by decide) ?_
            refine wt_yes ?_
            refine ⟨_, (if_pos rfl).symm, ?_⟩
            refine wx_tup (K := K) ?_
            refine wa_cons ?_
            refine wx_var rfl ?_
            refine ⟨_, rfl, ?_⟩
            refine wa_cons ?_
            refine wx_dget (t := yInt) (tk := yStr) ?_
            refine wx_var rfl ?_
            refine ⟨s2.2, rfl, ?_⟩
            refine wx_var rfl ?_
            refine ⟨_, _, rfl, rfl, fun r16 => ?_⟩
            refine ⟨_, rfl, ?_⟩
            refine wa_nil ?_
            refine ⟨[yStr q7, yInt r16], rfl, show 2 ≤ 1000 by decide, ?_⟩
            exact ⟨_, rfl, rfl⟩
          refine ⟨_, rfl, ?_⟩
          refine ⟨_, rfl, ?_⟩
          refine wx_var rfl ?_
          refine ⟨_, rfl, ?_⟩
          refine rx_neD (K := K) (t := (yLst K (yPr K yStr yInt))) (x := r17) (y := _law_before) (Nat.le_of_ble_eq_true rfl) ?_
          refine ⟨_, rfl, ?_⟩
          refine ⟨_, _, rfl, ?_, ?_⟩
          · refine ws_ctx (Γ' := [.own true ((wLst K yInt) r7.2), .val ((yPr K (yTup K yStr) (yTup K (yTr K yStr yStr yInt))) _law_theory_here), .val (yStr q1), .val ((yDct (κ := Str) yInt) s2.2), .any, .val ((yLst K (yTr K yStr yStr yInt)) s6), .val (yInt _law_side), .val ((yPr K (yTup K yStr) (yTup K (yTr K yStr yStr yInt))) _law_asked), .val ((yLst K (yPr K yStr yInt)) _law_before), .any]) rfl ?_
            refine ws_ret ?_
            refine wx_bl ?_
            refine ⟨_, rfl, ?_⟩
            exact ⟨_, rfl, rfl, (by first | trivial | exact ⟨rfl, trivial⟩ | exact ⟨rfl, rfl, trivial⟩)⟩
          · refine ws_next ?_
            exact ⟨_, rfl, by walk_at "subc"⟩
      refine ws_ctx (Γ' := [.own true ((wLst K yInt) s1), .val ((yPr K (yTup K yStr) (yTup K (yTr K yStr yStr yInt))) _law_theory_here), .any, .any, .any, .any, .any, .any, .any, .any]) rfl ?_
      refine ws_ret ?_
      refine wx_bl ?_
      exact ⟨_, rfl, rfl, (by first | trivial | exact ⟨rfl, trivial⟩ | exact ⟨rfl, rfl, trivial⟩)⟩
def pre_law (K : PySem.W.Frag) (A : Nat → Addr) : List Ar → Cl → Prop := fun as d => ∃ (_law_script : (List Int)), as = [.val ((yLst K yInt) _law_script)] ∧ d = ⟨(Bool), f_law _law_script, fun r => .val (yBl r), fun r => []⟩
theorem ok_lawM (T : Txt P K mg A D) : FnOk P w K mg base CX0 6 (A 29) (D 29) ["_law_script"] (spM A (pre_law K A)) := by
  refine T.F_law.ok sc_law (fun vs H Q E h => ?_) (fun cdv A' outer s H vs Q E hr h => ?_)
  · exact spM_len h fun as d hp => by obtain ⟨_law_script, rfl, rfl⟩ := hp; rfl
  · have hu := hu_of hr
    have G__law_theory : FnOk P w K mg base CX0 4 (A 18) (D 18) ["_law_source_here"] (spM A (pre__law_theory K A)) := ok__law_theory T
    have G__law_source : FnOk P w K mg base CX0 1 (A 13) (D 13) ["_law_script", "_law_k"] (spM A (pre__law_source K A)) := ok__law_source T
    have G__law_holds_right : FnOk P w K mg base CX0 4 (A 22) (D 22) ["_law_source_here", "_law_names"] (spM A (pre__law_holds_right K A)) := ok__law_holds_right T
    have G__law_valid_right : FnOk P w K mg base CX0 4 (A 21) (D 21) ["_law_source_here", "_law_names"] (spM A (pre__law_valid_right K A)) := ok__law_valid_right T
    have G_Steps_contradiction : FnOk P w K mg base CX0 1 (A 1224) (D 1224) ["self"] (spM A (pre_Steps_contradiction K A)) := ok_Steps_contradiction T
    have G__law_pin_right : FnOk P w K mg base CX0 2 (A 24) (D 24) ["_law_source_here", "_law_names"] (spM A (pre__law_pin_right K A)) := ok__law_pin_right T
    have G__law_rename_right : FnOk P w K mg base CX0 3 (A 23) (D 23) ["_law_source_here", "_law_theory_here"] (spM A (pre__law_rename_right K A)) := ok__law_rename_right T
    have G__law_lift_right : FnOk P w K mg base CX0 5 (A 28) (D 28) ["_law_source_here", "_law_theory_here"] (spM A (pre__law_lift_right K A)) := ok__law_lift_right T
    have G__law_ground_right : FnOk P w K mg base CX0 4 (A 25) (D 25) ["_law_source_here"] (spM A (pre__law_ground_right K A)) := ok__law_ground_right T
    refine ⟨_, (pss_cons (ps_set (i := 1) sc_law.nd rfl (Or.inl rfl) (pe_call G__law_theory (hr.mono (by decide)) rfl T.g__law_theory T.F__law_theory.kp T.b__law_theory .nil pass0 (pa_cons (pe_call G__law_source (hr.mono (by decide)) rfl T.g__law_source T.F__law_source.kp T.b__law_source .nil pass0 (pa_cons (pv 0) (pa_cons pe_int pa_nil))) pa_nil)))
      (pss_cons (ps_set (i := 2) sc_law.nd rfl (Or.inl rfl) (pe_call G__law_source (hr.mono (by decide)) rfl T.g__law_source T.F__law_source.kp T.b__law_source .nil pass0 (pa_cons (pv 0) (pa_cons pe_int pa_nil))))
      (pss_cons (ps_for PassesOwn.never rfl (pi_range1 rfl T.z_range (pa_cons pe_int pa_nil)) (pg_name (i := 3) sc_law.nd rfl (Or.inl rfl))
        (pss_one (ps_if (PW.pt (pw_or (pt_not (pt_val (pe_call G__law_valid_right (hr.mono (by decide)) rfl T.g__law_valid_right T.F__law_valid_right.kp T.b__law_valid_right .nil pass0 (pa_cons (pv 2) (pa_cons (pe_ix (xK_tup (K := K) rfl) (pv 1) pe_int (fun _ _ => rfl)) pa_nil))))) (pw_or1 (pt_not (pt_val (pe_call G__law_holds_right (hr.mono (by decide)) rfl T.g__law_holds_right T.F__law_holds_right.kp T.b__law_holds_right .nil pass0 (pa_cons (pv 2) (pa_cons (pe_ix (xK_tup (K := K) rfl) (pv 1) pe_int (fun _ _ => rfl)) pa_nil))))))))
          (pss_one (ps_ret pe_bl))
          pss_nil)))
      (pss_cons (ps_if (pt_cmpR (oP_ne (K := K) rfl hr.units) (methO_of (pe_meth0 (pe_makeP T.mp_Steps rfl T.g_Steps) T.cl_Steps T.M_Steps_contradiction G_Steps_contradiction (hr.mono (by decide)) T.b_Steps_contradiction .nil pass0 (ht := ht_call (by decide)))) (pe_tup (pa_cons pe_str (pa_cons pe_str (pa_cons (pe_un un_neg pe_int) pa_nil)))) (nomark _))
        (pss_one (ps_ret pe_bl))
        pss_nil)
      (pss_cons (ps_set (i := 2) sc_law.nd rfl (Or.inl rfl) (pe_call G__law_source (hr.mono (by decide)) rfl T.g__law_source T.F__law_source.kp T.b__law_source .nil pass0 (pa_cons (pv 0) (pa_cons pe_int pa_nil))))
      (pss_cons (ps_if (PW.pt (pw_or (pt_not (pt_val (pe_call G__law_rename_right (hr.mono (by decide)) rfl T.g__law_rename_right T.F__law_rename_right.kp T.b__law_rename_right .nil pass0 (pa_cons (pv 2) (pa_cons (pv 1) pa_nil))))) (pw_or1 (pt_not (pt_val (pe_call G__law_pin_right (hr.mono (by decide)) rfl T.g__law_pin_right T.F__law_pin_right.kp T.b__law_pin_right .nil pass0 (pa_cons (pv 2) (pa_cons (pe_ix (xK_tup (K := K) rfl) (pv 1) pe_int (fun _ _ => rfl)) pa_nil))))))))
        (pss_one (ps_ret pe_bl))
        pss_nil)
      (pss_one (ps_ret (pe_and (pe_call G__law_ground_right (hr.mono (by decide)) rfl T.g__law_ground_right T.F__law_ground_right.kp T.b__law_ground_right .nil pass0 (pa_cons (pv 2) pa_nil)) (pe_one (pe_call G__law_lift_right (hr.mono (by decide)) rfl T.g__law_lift_right T.F__law_lift_right.kp T.b__law_lift_right .nil pass0 (pa_cons (pe_call G__law_source (hr.mono (by decide)) rfl T.g__law_source T.F__law_source.kp T.b__law_source .nil pass0 (pa_cons (pv 0) (pa_cons pe_int pa_nil))) (pa_cons (pv 1) pa_nil))))))))))))), ?_⟩
    refine fn_run0 h (fun as d hp => ?_) fun as d hp => ?_
    · obtain ⟨_law_script, rfl, rfl⟩ := hp; simp
    · obtain ⟨_law_script, rfl, rfl⟩ := hp
      refine ⟨_, (show f_law _law_script = Res.noerr _ from rfl), ?_⟩
      refine ws_seq ?_
      refine ws_ctx (Γ' := [.val ((yLst K yInt) _law_script), .any, .any, .any]) rfl ?_
      refine ws_setL (yPr K (yTup K yStr) (yTup K (yTr K yStr yStr yInt))) ?_
      refine wx_callT ?_
      refine wx_call ?_
      refine wa_cons ?_
      refine wx_var rfl ?_
      refine ⟨_, rfl, ?_⟩
      refine wa_cons ?_
      refine wx_int ?_
      refine ⟨_, rfl, ?_⟩
      refine wa_nil ?_
      refine rc_call _ _ _ ⟨_law_script, (0 : Int), rfl, rfl⟩ ⟨rfl, rfl, trivial⟩ (show List.Nodup ([] : List Nat) by decide) rfl (.inr fun _ z => by first | exact noerr_ne z | exact (nomatch z)) fun r1 _ => ?_
      refine ⟨_, rfl, ?_⟩
      refine wa_nil ?_
      refine ⟨rfl, [], _, _, rfl, ⟨r1, rfl, rfl⟩, rfl, fun _ z => noerr_ne z, fun r2 _ => ?_⟩
      refine ⟨r2.1, _, rfl, show 1 < 4 by decide, rfl, fun _law_theory_here => ?_⟩
      refine ws_seq ?_
      refine ws_ctx (Γ' := [.val ((yLst K yInt) _law_script), .val ((yPr K (yTup K yStr) (yTup K (yTr K yStr yStr yInt))) _law_theory_here), .any, .any]) rfl ?_
      refine ws_setO (wLst K yInt) ?_
      refine wx_call ?_
      refine wa_cons ?_
      refine wx_var rfl ?_
      refine ⟨_, rfl, ?_⟩
      refine wa_cons ?_
      refine wx_int ?_
      refine ⟨_, rfl, ?_⟩
      refine wa_nil ?_
      refine rc_call _ _ _ ⟨_law_script, (1 : Int), rfl, rfl⟩ ⟨rfl, rfl, trivial⟩ (show List.Nodup ([] : List Nat) by decide) rfl (.inr fun _ z => by first | exact noerr_ne z | exact (nomatch z)) fun r3 _ => ?_
      refine ⟨r3, _, rfl, show 2 < 4 by decide, rfl, fun _law_source_here => ?_⟩
      refine ws_seq ?_
      refine ws_ctx (Γ' := [.val ((yLst K yInt) _law_script), .val ((yPr K (yTup K yStr) (yTup K (yTr K yStr yStr yInt))) _law_theory_here), .own false ((wLst K yInt) _law_source_here), .any]) rfl ?_
      refine ws_forF (μ := ((List Int))) (τ := (Bool)) yInt ?_
      refine wi_rng1 ?_
      refine wa_cons ?_
      refine wx_int ?_
      refine ⟨_, rfl, ?_⟩
      refine wa_nil ?_
      refine ⟨_, _, rfl, rfl, ?_⟩
      refine ⟨_, (fun s1 : ((List Int)) => [.val ((yLst K yInt) _law_script), .val ((yPr K (yTup K yStr) (yTup K (yTr K yStr yStr yInt))) _law_theory_here), .own false ((wLst K yInt) s1), .any]), (rng 0 ((3 : Int)).toNat), _, _, _, rfl, rfl, by walk_at "subc", fun s1 q1 => ?_, fun s1 => ?_⟩
      · refine wg_name (show 3 < 4 by decide) ?_
        refine ws_ctx (Γ' := [.val ((yLst K yInt) _law_script), .val ((yPr K (yTup K yStr) (yTup K (yTr K yStr yStr yInt))) _law_theory_here), .own false ((wLst K yInt) s1), .val (yInt q1)]) rfl ?_
        refine ws_if ?_
        refine wt_orM (μ := ((List Int))) ?_
        refine wt_not ?_
        refine wt_b ?_
        refine wx_call ?_
        refine wa_io rfl ?_
        refine wa_cons ?_
        refine wx_op ?_
        refine wx_var rfl ?_
        refine ⟨_, rfl, ?_⟩
        refine wx_int ?_
        refine ⟨_, rfl, ?_⟩
        refine rx_ixT rfl ?_
        refine ⟨_, rfl, ?_⟩
        refine wa_nil ?_
        refine rc_call _ _ _ ⟨s1, _law_theory_here.1, rfl, rfl⟩ ⟨⟨_, rfl⟩, rfl, trivial⟩ (show List.Nodup ([2] : List Nat) by decide) rfl (.inr fun _ z => by first | exact noerr_ne z | exact (nomatch z)) fun r5 _ => ?_
        refine ⟨_, rfl, ?_⟩
        refine ⟨(fun s2 : ((List Int)) => [.val ((yLst K yInt) _law_script), .val ((yPr K (yTup K yStr) (yTup K (yTr K yStr yStr yInt))) _law_theory_here), .own false ((wLst K yInt) s2), .val (yInt q1)]), _, (r5.2), _, rfl, by walk_at "subc", fun _ => ?_, fun r7 => ?_⟩
        · refine wt_not ?_
          refine wt_b ?_
          refine wx_call ?_
          refine wa_io rfl ?_
          refine wa_cons ?_
          refine wx_op ?_
          refine wx_var rfl ?_
          refine ⟨_, rfl, ?_⟩
          refine wx_int ?_
          refine ⟨_, rfl, ?_⟩
          refine rx_ixT rfl ?_
          refine ⟨_, rfl, ?_⟩
          refine wa_nil ?_
          refine rc_call _ _ _ ⟨r5.2, _law_theory_here.1, rfl, rfl⟩ ⟨⟨_, rfl⟩, rfl, trivial⟩ (show List.Nodup ([2] : List Nat) by decide) rfl (.inr fun _ z => by first | exact noerr_ne z | exact (nomatch z)) fun r6 _ => ?_
          refine ⟨_, rfl, ?_⟩
          exact ⟨_, rfl, by walk_at "subc"⟩
        refine ⟨_, _, rfl, ?_, ?_⟩
        · refine ws_ctx (Γ' := [.val ((yLst K yInt) _law_script), .val ((yPr K (yTup K yStr) (yTup K (yTr K yStr yStr yInt))) _law_theory_here), .own false ((wLst K yInt) r7.2), .val (yInt q1)]) rfl ?_
          refine ws_ret ?_
          refine wx_bl ?_
          refine ⟨_, rfl, ?_⟩
          exact ⟨_, rfl, rfl, (by first | trivial | exact ⟨rfl, trivial⟩ | exact ⟨rfl, rfl, trivial⟩)⟩
        · refine ws_next ?_
          exact ⟨_, rfl, by walk_at "subc"⟩
      refine ws_seq ?_
      refine ws_ctx (Γ' := [.val ((yLst K yInt) _law_script), .val ((yPr K (yTup K yStr) (yTup K (yTr K yStr yStr yInt))) _law_theory_here), .own false ((wLst K yInt) s1), .any]) rfl ?_
      refine ws_if ?_
      refine wt_b ?_
      refine wx_op ?_
      refine wx_meth ?_
      refine wx_makeP ?_
      refine ⟨_, rfl, rfl, ?_⟩
      refine wa_nil ?_
      refine rc_callP _ _ (f_Steps_contradiction ()) ⟨(), rfl, rfl⟩ ⟨rfl, trivial⟩ (show List.Nodup ([] : List Nat) by decide) rfl ?_
      refine ⟨_, rfl, ?_⟩
      refine wx_tup (K := K) ?_
      refine wa_cons ?_
      refine wx_str ?_
      refine ⟨_, rfl, ?_⟩
      refine wa_cons ?_
      refine wx_str ?_
      refine ⟨_, rfl, ?_⟩
      refine wa_cons ?_
      refine wx_un ?_
      refine wx_int ?_
      refine ⟨_, rfl, ?_⟩
      refine ru_neg ?_
      refine ⟨_, rfl, ?_⟩
      refine wa_nil ?_
      refine ⟨[yStr ("" : Str), yStr ("" : Str), yInt (-(1 : Int))], rfl, show 3 ≤ 1000 by decide, ?_⟩
      refine ⟨_, rfl, ?_⟩
      refine rx_neD (K := K) (t := (yTr K yStr yStr yInt)) (x := (f_Steps_contradiction ())) (y := (("" : Str), ("" : Str), (-(1 : Int)))) (Nat.le_of_ble_eq_true rfl) ?_
      refine ⟨_, rfl, ?_⟩
      refine ⟨_, _, rfl, ?_, ?_⟩
      · refine ws_ctx (Γ' := [.val ((yLst K yInt) _law_script), .val ((yPr K (yTup K yStr) (yTup K (yTr K yStr yStr yInt))) _law_theory_here), .own false ((wLst K yInt) s1), .any]) rfl ?_
        refine ws_ret ?_
        refine wx_bl ?_
        exact ⟨_, rfl, rfl, (by first | trivial | exact ⟨rfl, trivial⟩ | exact ⟨rfl, rfl, trivial⟩)⟩
      · refine ws_next ?_
        refine ws_seq ?_
        refine ws_ctx (Γ' := [.val ((yLst K yInt) _law_script), .val ((yPr K (yTup K yStr) (yTup K (yTr K yStr yStr yInt))) _law_theory_here), .own false ((wLst K yInt) s1), .any]) rfl ?_
        refine ws_setO (wLst K yInt) ?_
        refine wx_call ?_
        refine wa_cons ?_
        refine wx_var rfl ?_
        refine ⟨_, rfl, ?_⟩
        refine wa_cons ?_
        refine wx_int ?_
        refine ⟨_, rfl, ?_⟩
        refine wa_nil ?_
        refine rc_call _ _ _ ⟨_law_script, (2 : Int), rfl, rfl⟩ ⟨rfl, rfl, trivial⟩ (show List.Nodup ([] : List Nat) by decide) rfl (.inr fun _ z => by first | exact noerr_ne z | exact (nomatch z)) fun r8 _ => ?_
        refine ⟨r8, _, rfl, show 2 < 4 by decide, rfl, fun _law_source_here => ?_⟩
        refine ws_seq ?_
        refine ws_ctx (Γ' := [.val ((yLst K yInt) _law_script), .val ((yPr K (yTup K yStr) (yTup K (yTr K yStr yStr yInt))) _law_theory_here), .own false ((wLst K yInt) _law_source_here), .any]) rfl ?_
        refine ws_if ?_
        refine wt_orM (μ := ((List Int))) ?_
        refine wt_not ?_
        refine wt_b ?_
        refine wx_call ?_
        refine wa_io rfl ?_
        refine wa_cons ?_
        refine wx_var rfl ?_
        refine ⟨_, rfl, ?_⟩
        refine wa_nil ?_
        refine rc_call _ _ _ ⟨_law_source_here, _law_theory_here, rfl, rfl⟩ ⟨⟨_, rfl⟩, rfl, trivial⟩ (show List.Nodup ([2] : List Nat) by decide) rfl (.inr fun _ z => by first | exact noerr_ne z | exact (nomatch z)) fun r9 _ => ?_
        refine ⟨_, rfl, ?_⟩
        refine ⟨(fun s3 : ((List Int)) => [.val ((yLst K yInt) _law_script), .val ((yPr K (yTup K yStr) (yTup K (yTr K yStr yStr yInt))) _law_theory_here), .own false ((wLst K yInt) s3), .any]), _, (r9.2), _, rfl, by walk_at "subc", fun _ => ?_, fun r11 => ?_⟩
        · refine wt_not ?_
          refine wt_b ?_
          refine wx_call ?_
          refine wa_io rfl ?_
          refine wa_cons ?_
          refine wx_op ?_
          refine wx_var rfl ?_
          refine ⟨_, rfl, ?_⟩
          refine wx_int ?_
          refine ⟨_, rfl, ?_⟩
          refine rx_ixT rfl ?_
          refine ⟨_, rfl, ?_⟩
          refine wa_nil ?_
          refine rc_call _ _ _ ⟨r9.2, _law_theory_here.1, rfl, rfl⟩ ⟨⟨_, rfl⟩, rfl, trivial⟩ (show List.Nodup ([2] : List Nat) by decide) rfl (.inr fun _ z => by first | exact noerr_ne z | exact (nomatch z)) fun r10 _ => ?_
          refine ⟨_, rfl, ?_⟩
          exact ⟨_, rfl, by walk_at "subc"⟩
        refine ⟨_, _, rfl, ?_, ?_⟩
        · refine ws_ctx (Γ' := [.val ((yLst K yInt) _law_script), .val ((yPr K (yTup K yStr) (yTup K (yTr K yStr yStr yInt))) _law_theory_here), .own false ((wLst K yInt) r11.2), .any]) rfl ?_
          refine ws_ret ?_
          refine wx_bl ?_
          exact ⟨_, rfl, rfl, (by first | trivial | exact ⟨rfl, trivial⟩ | exact ⟨rfl, rfl, trivial⟩)⟩
        · refine ws_next ?_
          refine ws_ctx (Γ' := [.val ((yLst K yInt) _law_script), .val ((yPr K (yTup K yStr) (yTup K (yTr K yStr yStr yInt))) _law_theory_here), .own false ((wLst K yInt) r11.2), .any]) rfl ?_
          refine ws_ret ?_
          refine wx_andVM (μ := Unit) ?_
          refine wx_call ?_
          refine wa_io rfl ?_
          refine wa_nil ?_
          refine rc_call _ _ _ ⟨r11.2, rfl, rfl⟩ ⟨⟨_, rfl⟩, trivial⟩ (show List.Nodup ([2] : List Nat) by decide) rfl (.inr fun _ z => by first | exact noerr_ne z | exact (nomatch z)) fun r12 _ => ?_
          refine ⟨_, rfl, (fun s4 : Unit => [.val ((yLst K yInt) _law_script), .val ((yPr K (yTup K yStr) (yTup K (yTr K yStr yStr yInt))) _law_theory_here), .own false ((wLst K yInt) r12.2), .any]), _, (), _, rfl, by walk_at "subc", fun _ => ?_, fun r15 => ?_⟩
          · refine wx_callT ?_
            refine wx_call ?_
            refine wa_cons ?_
            refine wx_var rfl ?_
            refine ⟨_, rfl, ?_⟩
            refine wa_cons ?_
            refine wx_int ?_
            refine ⟨_, rfl, ?_⟩
            refine wa_nil ?_
            refine rc_call _ _ _ ⟨_law_script, (3 : Int), rfl, rfl⟩ ⟨rfl, rfl, trivial⟩ (show List.Nodup ([] : List Nat) by decide) rfl (.inr fun _ z => by first | exact noerr_ne z | exact (nomatch z)) fun r13 _ => ?_
            refine ⟨_, rfl, ?_⟩
            refine wa_cons ?_
            refine wx_var rfl ?_
            refine ⟨_, rfl, ?_⟩
            refine wa_nil ?_
            refine ⟨rfl, [(yPr K (yTup K yStr) (yTup K (yTr K yStr yStr yInt))) _law_theory_here], _, _, rfl, ⟨r13, _law_theory_here, rfl, rfl⟩, rfl, fun _ z => noerr_ne z, fun r14 _ => ?_⟩
            exact ⟨_, _, rfl, rfl, by walk_at "subc"⟩
          exact ⟨_, rfl, rfl, (by first | trivial | exact ⟨rfl, trivial⟩ | exact ⟨rfl, rfl, trivial⟩)⟩
end
def sp_law (K : PySem.W.Frag) : Sp := fun vs H Q _ => ∃ (a : Addr) (ns : List Int), vs = [.ref a] ∧ SqL K H a (ns.map V.int) ∧ ns.length ≤ 63 ∧ ∀ H', Q (.bl true) H'
section
variable {P : Program} {w : World} {K : PySem.W.Frag} {mg : Str → Option Value} {base : Heap} {A : Nat → Addr} {D : Nat → FuncData}
theorem ok_law (T : Txt P K mg A D) : FnOk P w K mg base CX0 6 (A 29) (D 29) ["_law_script"] (sp_law K) := FnOk.imp (ok_lawM T) fun vs H Q E h => law_imp (fun ns => ⟨ns, rfl, rfl⟩) (fun ns hn => law_pure hn) h
end
theorem all_mk {l : PySem.W.OpenLaw} {w : World} {K : PySem.W.Frag} {h : Heap} {mg : Str → Option Value} {fa : Addr} (X : K.In h) (G : h.Ns mainGlobals mg) (hfa : mg "law" = some (.ref fa))
    {f2 : Addr} (a2 : PySem.W.nsIn K mainGlobals "ShadowError" = some (some (.ref f2)))
    {f3 : Addr} (a3 : PySem.W.nsIn K mainGlobals "NoSolution" = some (some (.ref f3)))
    (ex_3 : PySem.W.excIn K f3 [.type "ValueError", .type "Exception", .type "BaseException", .type "object"] "ValueError.__new__" = true)
    (kC_3 : PySem.W.keepIn K (.ref f3) = true)
    (tC_3 : PySem.W.typeIn K (.ref f3) = some (.type "type"))
    (ga_3 : PySem.W.findIn K (.ref f3) "__getattribute__" = some (some (.builtin "BaseException.__getattribute__")))
    (gg_3 : PySem.W.findIn K (.ref f3) "__getattr__" = some none)
    (eC_3 : PySem.W.subIn K (.ref f3) (.type "BaseException") = some true)
    (hC_3 : PySem.W.hasDictIn K f3 = true)
    (isa_3 : PySem.W.findIn K (.ref f3) "__class__" = some (some (.builtin "object.__class__")))
    (isn_3 : PySem.W.specialIn K (.builtin "object.__class__") "__get__" = some (some (.builtin "getset_descriptor.__get__")))
    (ist_3 : PySem.W.takesIn K (.builtin "object.__class__") = some true)
    (ism_3 : PySem.W.mroIn K f3 (.type "object") = some true)
    (sb_3_2 : PySem.W.subIn K (.ref f3) (.ref f2) = some true) (ki_3_2 : PySem.W.kitOne K (.ref f3) (.ref f2) = some true)
    (eC_2 : PySem.W.subIn K (.ref f2) (.type "BaseException") = some true)
    (tC_2 : PySem.W.typeIn K (.ref f2) = some (.type "type"))
    (hC_2 : PySem.W.hasDictIn K f2 = true)
    (sb_3_3 : PySem.W.subIn K (.ref f3) (.ref f3) = some true) (ki_3_3 : PySem.W.kitOne K (.ref f3) (.ref f3) = some true)
    (kv_3 : PySem.W.kitOne K (.ref f3) (.type "ValueError") = some true)
    {f7 : Addr}
    (a7 : PySem.W.nsIn K mainGlobals "Kind" = some (some (.ref f7)))
    (pg7 : PySem.W.plainGet K f7 Str.empty = true)
    (hd7 : PySem.W.hasDictIn K f7 = true)
    (po7 : PySem.W.plainOver K f7 = true)
    (os7 : PySem.W.findIn K (.ref f7) "__setattr__" = some (some (.builtin "object.__setattr__")))
    (rd7 : PySem.W.readsIn K f7 (.type "type") = true)
    (og7 : PySem.W.specialIn K (.ref f7) "__getattribute__" = some (some (.builtin "type.__getattribute__")))
    (sf7 : PySem.W.selfFirst K f7 = true)
    (mk7 : PySem.W.makesIn K f7 = true)
    (oi7 : PySem.W.findIn K (.ref f7) "__init__" = some (some (.builtin "object.__init__")))
    (kp7 : PySem.W.keepIn K (.ref f7) = true)
    {f11 : Addr}
    (a11 : PySem.W.nsIn K mainGlobals "Steps" = some (some (.ref f11)))
    (pg11 : PySem.W.plainGet K f11 Str.empty = true)
    (hd11 : PySem.W.hasDictIn K f11 = true)
    (po11 : PySem.W.plainOver K f11 = true)
    (os11 : PySem.W.findIn K (.ref f11) "__setattr__" = some (some (.builtin "object.__setattr__")))
    (rd11 : PySem.W.readsIn K f11 (.type "type") = true)
    (og11 : PySem.W.specialIn K (.ref f11) "__getattribute__" = some (some (.builtin "type.__getattribute__")))
    (sf11 : PySem.W.selfFirst K f11 = true)
    (mk11 : PySem.W.makesIn K f11 = true)
    (oi11 : PySem.W.findIn K (.ref f11) "__init__" = some (some (.builtin "object.__init__")))
    (kp11 : PySem.W.keepIn K (.ref f11) = true)
    {oc1142 kV1142 dc1142 pm1142 cd1142 ct1142 : Value} {od1142 an1142 : Option Addr} {sl1142 : Array (Option Value)} {f1142 : Addr}
    (at1142 : PySem.W.findIn K (.ref f7) "is_valid" = some (some (.ref f1142)))
    (fn1142 : PySem.W.isFn K (.ref f1142) = true)
    (l1142 : K.lookup f1142 = some ⟨oc1142, od1142, .func (PySem.W.fnOf "is_valid" "Kind.is_valid" (defArgs (topM 7 2)) (defBody (topM 7 2)) (defScope (topM 7 2)) .none kV1142 dc1142 pm1142 an1142 cd1142 ct1142), sl1142⟩)
    (c1142 : PySem.W.codeIn K cd1142 "Kind.is_valid" = true)
    (k1142 : PySem.W.keepIn K (.ref f1142) = true)
    {oc1221 kV1221 dc1221 pm1221 cd1221 ct1221 : Value} {od1221 an1221 : Option Addr} {sl1221 : Array (Option Value)} {f1221 : Addr}
    (at1221 : PySem.W.findIn K (.ref f11) "names_in" = some (some (.ref f1221)))
    (fn1221 : PySem.W.isFn K (.ref f1221) = true)
    (l1221 : K.lookup f1221 = some ⟨oc1221, od1221, .func (PySem.W.fnOf "names_in" "Steps.names_in" (defArgs (topM 11 1)) (defBody (topM 11 1)) (defScope (topM 11 1)) .none kV1221 dc1221 pm1221 an1221 cd1221 ct1221), sl1221⟩)
    (c1221 : PySem.W.codeIn K cd1221 "Steps.names_in" = true)
    (k1221 : PySem.W.keepIn K (.ref f1221) = true)
    {oc1222 kV1222 dc1222 pm1222 ct1222 : Value} {od1222 an1222 : Option Addr} {sl1222 : Array (Option Value)} {f1222 : Addr}
    (at1222 : PySem.W.findIn K (.ref f11) "is_valid" = some (some (.ref f1222)))
    (fn1222 : PySem.W.isFn K (.ref f1222) = true)
    {cc1222 ca1222 : Addr} {cl1222 cv1222 : Value} {cm1222 cn1222 : Option Addr} {cs1222 cz1222 : Array (Option Value)} {vs1222 : Array Value} {fl1222 : Str} {tf1222 : Tok}
    (l1222 : K.lookup f1222 = some ⟨oc1222, od1222, .func (PySem.W.ksFn "is_valid" "Steps.is_valid" (defArgs (topM 11 2)) (defBody (topM 11 2)) (defScope (topM 11 2)) .none kV1222 dc1222 pm1222 an1222 (.ref ca1222) ct1222 cc1222), sl1222⟩)
    (c1222 : PySem.W.codeIn K (.ref ca1222) "Steps.is_valid" = true)
    (k1222 : PySem.W.keepIn K (.ref f1222) = true)
    (ce1222 : K.lookup cc1222 = some ⟨cl1222, cm1222, .cell (some (.ref f11)), cs1222⟩)
    (co1222 : K.lookup ca1222 = some ⟨cv1222, cn1222, .fields vs1222, cz1222⟩)
    (rfv1222 : vs1222[2]? = some (.str fl1222 tf1222))
    (rff1222 : ((l.prog.main.file : Str) == fl1222) = true)
    (rtp1222 : (l.prog.main.scope.names.lookup ("super" : Str)).isSome = false)
    {oc1223 kV1223 dc1223 pm1223 cd1223 ct1223 : Value} {od1223 an1223 : Option Addr} {sl1223 : Array (Option Value)} {f1223 : Addr}
    (at1223 : PySem.W.findIn K (.ref f11) "holds" = some (some (.ref f1223)))
    (fn1223 : PySem.W.isFn K (.ref f1223) = true)
    (l1223 : K.lookup f1223 = some ⟨oc1223, od1223, .func (PySem.W.fnOf "holds" "Steps.holds" (defArgs (topM 11 3)) (defBody (topM 11 3)) (defScope (topM 11 3)) .none kV1223 dc1223 pm1223 an1223 cd1223 ct1223), sl1223⟩)
    (c1223 : PySem.W.codeIn K cd1223 "Steps.holds" = true)
    (k1223 : PySem.W.keepIn K (.ref f1223) = true)
    {oc1224 kV1224 dc1224 pm1224 cd1224 ct1224 : Value} {od1224 an1224 : Option Addr} {sl1224 : Array (Option Value)} {f1224 : Addr}
    (at1224 : PySem.W.findIn K (.ref f11) "contradiction" = some (some (.ref f1224)))
    (fn1224 : PySem.W.isFn K (.ref f1224) = true)
    (l1224 : K.lookup f1224 = some ⟨oc1224, od1224, .func (PySem.W.fnOf "contradiction" "Steps.contradiction" (defArgs (topM 11 4)) (defBody (topM 11 4)) (defScope (topM 11 4)) .none kV1224 dc1224 pm1224 an1224 cd1224 ct1224), sl1224⟩)
    (c1224 : PySem.W.codeIn K cd1224 "Steps.contradiction" = true)
    (k1224 : PySem.W.keepIn K (.ref f1224) = true)
    {oc1225 kV1225 dc1225 pm1225 cd1225 ct1225 : Value} {od1225 an1225 : Option Addr} {sl1225 : Array (Option Value)} {f1225 : Addr}
    (at1225 : PySem.W.findIn K (.ref f11) "rename" = some (some (.ref f1225)))
    (fn1225 : PySem.W.isFn K (.ref f1225) = true)
    (l1225 : K.lookup f1225 = some ⟨oc1225, od1225, .func (PySem.W.fnOf "rename" "Steps.rename" (defArgs (topM 11 5)) (defBody (topM 11 5)) (defScope (topM 11 5)) .none kV1225 dc1225 pm1225 an1225 cd1225 ct1225), sl1225⟩)
    (c1225 : PySem.W.codeIn K cd1225 "Steps.rename" = true)
    (k1225 : PySem.W.keepIn K (.ref f1225) = true)
    {oc1227 kV1227 dc1227 pm1227 cd1227 ct1227 : Value} {od1227 an1227 : Option Addr} {sl1227 : Array (Option Value)} {f1227 : Addr}
    (at1227 : PySem.W.findIn K (.ref f11) "lift" = some (some (.ref f1227)))
    (fn1227 : PySem.W.isFn K (.ref f1227) = true)
    (l1227 : K.lookup f1227 = some ⟨oc1227, od1227, .func (PySem.W.fnOf "lift" "Steps.lift" (defArgs (topM 11 7)) (defBody (topM 11 7)) (defScope (topM 11 7)) .none kV1227 dc1227 pm1227 an1227 cd1227 ct1227), sl1227⟩)
    (c1227 : PySem.W.codeIn K cd1227 "Steps.lift" = true)
    (k1227 : PySem.W.keepIn K (.ref f1227) = true)
    {oc1228 kV1228 dc1228 pm1228 cd1228 ct1228 : Value} {od1228 an1228 : Option Addr} {sl1228 : Array (Option Value)} {f1228 : Addr}
    (at1228 : PySem.W.findIn K (.ref f11) "ground" = some (some (.ref f1228)))
    (fn1228 : PySem.W.isFn K (.ref f1228) = true)
    (l1228 : K.lookup f1228 = some ⟨oc1228, od1228, .func (PySem.W.fnOf "ground" "Steps.ground" (defArgs (topM 11 8)) (defBody (topM 11 8)) (defScope (topM 11 8)) .none kV1228 dc1228 pm1228 an1228 cd1228 ct1228), sl1228⟩)
    (c1228 : PySem.W.codeIn K cd1228 "Steps.ground" = true)
    (k1228 : PySem.W.keepIn K (.ref f1228) = true)
    {oc1233 kV1233 dc1233 pm1233 cd1233 ct1233 : Value} {od1233 an1233 : Option Addr} {sl1233 : Array (Option Value)} {f1233 : Addr}
    (at1233 : PySem.W.findIn K (.ref f11) "pin" = some (some (.ref f1233)))
    (fn1233 : PySem.W.isFn K (.ref f1233) = true)
    (l1233 : K.lookup f1233 = some ⟨oc1233, od1233, .func (PySem.W.fnOf "pin" "Steps.pin" (defArgs (topM 11 13)) (defBody (topM 11 13)) (defScope (topM 11 13)) .none kV1233 dc1233 pm1233 an1233 cd1233 ct1233), sl1233⟩)
    (c1233 : PySem.W.codeIn K cd1233 "Steps.pin" = true)
    (k1233 : PySem.W.keepIn K (.ref f1233) = true)
    (ic1222 : PySem.W.isClsIn K f11 = true)
    (mr1222 : PySem.W.mroIn K f11 (.ref f11) = some true)
    (any1222 : PySem.W.nsIn K cStatics "thirdparty.any" = some none)
    (ksu1222 : PySem.W.ks_superIn K f11 f11 "is_valid" = some (some (.ref f1142)))
    (ty1222 : PySem.W.typeIn K (.ref f1142) = some (.type "function"))
    (fi1222 : PySem.W.fnIn K f1142 = true)
    {oc5 kV5 dc5 pm5 cd5 ct5 : Value} {od5 an5 : Option Addr} {sl5 : Array (Option Value)} {f5 : Addr}
    (a5 : PySem.W.nsIn K mainGlobals "value_of" = some (some (.ref f5))) (l5 : K.lookup f5 = some ⟨oc5, od5, .func (PySem.W.fnOf "value_of" "value_of" (defArgs (topS 5)) (defBody (topS 5)) (defScope (topS 5)) .none kV5 dc5 pm5 an5 cd5 ct5), sl5⟩) (c5 : PySem.W.codeIn K cd5 "value_of" = true) (k5 : PySem.W.keepIn K (.ref f5) = true)
    {oc9 kV9 dc9 pm9 cd9 ct9 : Value} {od9 an9 : Option Addr} {sl9 : Array (Option Value)} {f9 : Addr}
    (a9 : PySem.W.nsIn K mainGlobals "merge_names" = some (some (.ref f9))) (l9 : K.lookup f9 = some ⟨oc9, od9, .func (PySem.W.fnOf "merge_names" "merge_names" (defArgs (topS 9)) (defBody (topS 9)) (defScope (topS 9)) .none kV9 dc9 pm9 an9 cd9 ct9), sl9⟩) (c9 : PySem.W.codeIn K cd9 "merge_names" = true) (k9 : PySem.W.keepIn K (.ref f9) = true)
    {oc13 kV13 dc13 pm13 cd13 ct13 : Value} {od13 an13 : Option Addr} {sl13 : Array (Option Value)} {f13 : Addr}
    (a13 : PySem.W.nsIn K mainGlobals "_law_source" = some (some (.ref f13))) (l13 : K.lookup f13 = some ⟨oc13, od13, .func (PySem.W.fnOf "_law_source" "_law_source" (defArgs (topS 13)) (defBody (topS 13)) (defScope (topS 13)) .none kV13 dc13 pm13 an13 cd13 ct13), sl13⟩) (c13 : PySem.W.codeIn K cd13 "_law_source" = true) (k13 : PySem.W.keepIn K (.ref f13) = true)
    {oc14 kV14 dc14 pm14 cd14 ct14 : Value} {od14 an14 : Option Addr} {sl14 : Array (Option Value)} {f14 : Addr}
    (a14 : PySem.W.nsIn K mainGlobals "_law_draw" = some (some (.ref f14))) (l14 : K.lookup f14 = some ⟨oc14, od14, .func (PySem.W.fnOf "_law_draw" "_law_draw" (defArgs (topS 14)) (defBody (topS 14)) (defScope (topS 14)) .none kV14 dc14 pm14 an14 cd14 ct14), sl14⟩) (c14 : PySem.W.codeIn K cd14 "_law_draw" = true) (k14 : PySem.W.keepIn K (.ref f14) = true)
    {oc15 kV15 dc15 pm15 cd15 ct15 : Value} {od15 an15 : Option Addr} {sl15 : Array (Option Value)} {f15 : Addr}
    (a15 : PySem.W.nsIn K mainGlobals "_law_some" = some (some (.ref f15))) (l15 : K.lookup f15 = some ⟨oc15, od15, .func (PySem.W.fnOf "_law_some" "_law_some" (defArgs (topS 15)) (defBody (topS 15)) (defScope (topS 15)) .none kV15 dc15 pm15 an15 cd15 ct15), sl15⟩) (c15 : PySem.W.codeIn K cd15 "_law_some" = true) (k15 : PySem.W.keepIn K (.ref f15) = true)
    {oc16 kV16 dc16 pm16 cd16 ct16 : Value} {od16 an16 : Option Addr} {sl16 : Array (Option Value)} {f16 : Addr}
    (a16 : PySem.W.nsIn K mainGlobals "_law_bound" = some (some (.ref f16))) (l16 : K.lookup f16 = some ⟨oc16, od16, .func (PySem.W.fnOf "_law_bound" "_law_bound" (defArgs (topS 16)) (defBody (topS 16)) (defScope (topS 16)) .none kV16 dc16 pm16 an16 cd16 ct16), sl16⟩) (c16 : PySem.W.codeIn K cd16 "_law_bound" = true) (k16 : PySem.W.keepIn K (.ref f16) = true)
    {oc17 kV17 dc17 pm17 cd17 ct17 : Value} {od17 an17 : Option Addr} {sl17 : Array (Option Value)} {f17 : Addr}
    (a17 : PySem.W.nsIn K mainGlobals "_law_constraint" = some (some (.ref f17))) (l17 : K.lookup f17 = some ⟨oc17, od17, .func (PySem.W.fnOf "_law_constraint" "_law_constraint" (defArgs (topS 17)) (defBody (topS 17)) (defScope (topS 17)) .none kV17 dc17 pm17 an17 cd17 ct17), sl17⟩) (c17 : PySem.W.codeIn K cd17 "_law_constraint" = true) (k17 : PySem.W.keepIn K (.ref f17) = true)
    {oc18 kV18 dc18 pm18 cd18 ct18 : Value} {od18 an18 : Option Addr} {sl18 : Array (Option Value)} {f18 : Addr}
    (a18 : PySem.W.nsIn K mainGlobals "_law_theory" = some (some (.ref f18))) (l18 : K.lookup f18 = some ⟨oc18, od18, .func (PySem.W.fnOf "_law_theory" "_law_theory" (defArgs (topS 18)) (defBody (topS 18)) (defScope (topS 18)) .none kV18 dc18 pm18 an18 cd18 ct18), sl18⟩) (c18 : PySem.W.codeIn K cd18 "_law_theory" = true) (k18 : PySem.W.keepIn K (.ref f18) = true)
    {oc19 kV19 dc19 pm19 cd19 ct19 : Value} {od19 an19 : Option Addr} {sl19 : Array (Option Value)} {f19 : Addr}
    (a19 : PySem.W.nsIn K mainGlobals "_law_value" = some (some (.ref f19))) (l19 : K.lookup f19 = some ⟨oc19, od19, .func (PySem.W.fnOf "_law_value" "_law_value" (defArgs (topS 19)) (defBody (topS 19)) (defScope (topS 19)) .none kV19 dc19 pm19 an19 cd19 ct19), sl19⟩) (c19 : PySem.W.codeIn K cd19 "_law_value" = true) (k19 : PySem.W.keepIn K (.ref f19) = true)
    {oc20 kV20 dc20 pm20 cd20 ct20 : Value} {od20 an20 : Option Addr} {sl20 : Array (Option Value)} {f20 : Addr}
    (a20 : PySem.W.nsIn K mainGlobals "_law_same" = some (some (.ref f20))) (l20 : K.lookup f20 = some ⟨oc20, od20, .func (PySem.W.fnOf "_law_same" "_law_same" (defArgs (topS 20)) (defBody (topS 20)) (defScope (topS 20)) .none kV20 dc20 pm20 an20 cd20 ct20), sl20⟩) (c20 : PySem.W.codeIn K cd20 "_law_same" = true) (k20 : PySem.W.keepIn K (.ref f20) = true)
    {oc21 kV21 dc21 pm21 cd21 ct21 : Value} {od21 an21 : Option Addr} {sl21 : Array (Option Value)} {f21 : Addr}
    (a21 : PySem.W.nsIn K mainGlobals "_law_valid_right" = some (some (.ref f21))) (l21 : K.lookup f21 = some ⟨oc21, od21, .func (PySem.W.fnOf "_law_valid_right" "_law_valid_right" (defArgs (topS 21)) (defBody (topS 21)) (defScope (topS 21)) .none kV21 dc21 pm21 an21 cd21 ct21), sl21⟩) (c21 : PySem.W.codeIn K cd21 "_law_valid_right" = true) (k21 : PySem.W.keepIn K (.ref f21) = true)
    {oc22 kV22 dc22 pm22 cd22 ct22 : Value} {od22 an22 : Option Addr} {sl22 : Array (Option Value)} {f22 : Addr}
    (a22 : PySem.W.nsIn K mainGlobals "_law_holds_right" = some (some (.ref f22))) (l22 : K.lookup f22 = some ⟨oc22, od22, .func (PySem.W.fnOf "_law_holds_right" "_law_holds_right" (defArgs (topS 22)) (defBody (topS 22)) (defScope (topS 22)) .none kV22 dc22 pm22 an22 cd22 ct22), sl22⟩) (c22 : PySem.W.codeIn K cd22 "_law_holds_right" = true) (k22 : PySem.W.keepIn K (.ref f22) = true)
    {oc23 kV23 dc23 pm23 cd23 ct23 : Value} {od23 an23 : Option Addr} {sl23 : Array (Option Value)} {f23 : Addr}
    (a23 : PySem.W.nsIn K mainGlobals "_law_rename_right" = some (some (.ref f23))) (l23 : K.lookup f23 = some ⟨oc23, od23, .func (PySem.W.fnOf "_law_rename_right" "_law_rename_right" (defArgs (topS 23)) (defBody (topS 23)) (defScope (topS 23)) .none kV23 dc23 pm23 an23 cd23 ct23), sl23⟩) (c23 : PySem.W.codeIn K cd23 "_law_rename_right" = true) (k23 : PySem.W.keepIn K (.ref f23) = true)
    {oc24 kV24 dc24 pm24 cd24 ct24 : Value} {od24 an24 : Option Addr} {sl24 : Array (Option Value)} {f24 : Addr}
    (a24 : PySem.W.nsIn K mainGlobals "_law_pin_right" = some (some (.ref f24))) (l24 : K.lookup f24 = some ⟨oc24, od24, .func (PySem.W.fnOf "_law_pin_right" "_law_pin_right" (defArgs (topS 24)) (defBody (topS 24)) (defScope (topS 24)) .none kV24 dc24 pm24 an24 cd24 ct24), sl24⟩) (c24 : PySem.W.codeIn K cd24 "_law_pin_right" = true) (k24 : PySem.W.keepIn K (.ref f24) = true)
    {oc25 kV25 dc25 pm25 cd25 ct25 : Value} {od25 an25 : Option Addr} {sl25 : Array (Option Value)} {f25 : Addr}
    (a25 : PySem.W.nsIn K mainGlobals "_law_ground_right" = some (some (.ref f25))) (l25 : K.lookup f25 = some ⟨oc25, od25, .func (PySem.W.fnOf "_law_ground_right" "_law_ground_right" (defArgs (topS 25)) (defBody (topS 25)) (defScope (topS 25)) .none kV25 dc25 pm25 an25 cd25 ct25), sl25⟩) (c25 : PySem.W.codeIn K cd25 "_law_ground_right" = true) (k25 : PySem.W.keepIn K (.ref f25) = true)
    {oc26 kV26 dc26 pm26 cd26 ct26 : Value} {od26 an26 : Option Addr} {sl26 : Array (Option Value)} {f26 : Addr}
    (a26 : PySem.W.nsIn K mainGlobals "_law_first" = some (some (.ref f26))) (l26 : K.lookup f26 = some ⟨oc26, od26, .func (PySem.W.fnOf "_law_first" "_law_first" (defArgs (topS 26)) (defBody (topS 26)) (defScope (topS 26)) .none kV26 dc26 pm26 an26 cd26 ct26), sl26⟩) (c26 : PySem.W.codeIn K cd26 "_law_first" = true) (k26 : PySem.W.keepIn K (.ref f26) = true)
    {oc27 kV27 dc27 pm27 cd27 ct27 : Value} {od27 an27 : Option Addr} {sl27 : Array (Option Value)} {f27 : Addr}
    (a27 : PySem.W.nsIn K mainGlobals "_law_lifted" = some (some (.ref f27))) (l27 : K.lookup f27 = some ⟨oc27, od27, .func (PySem.W.fnOf "_law_lifted" "_law_lifted" (defArgs (topS 27)) (defBody (topS 27)) (defScope (topS 27)) .none kV27 dc27 pm27 an27 cd27 ct27), sl27⟩) (c27 : PySem.W.codeIn K cd27 "_law_lifted" = true) (k27 : PySem.W.keepIn K (.ref f27) = true)
    {oc28 kV28 dc28 pm28 cd28 ct28 : Value} {od28 an28 : Option Addr} {sl28 : Array (Option Value)} {f28 : Addr}
    (a28 : PySem.W.nsIn K mainGlobals "_law_lift_right" = some (some (.ref f28))) (l28 : K.lookup f28 = some ⟨oc28, od28, .func (PySem.W.fnOf "_law_lift_right" "_law_lift_right" (defArgs (topS 28)) (defBody (topS 28)) (defScope (topS 28)) .none kV28 dc28 pm28 an28 cd28 ct28), sl28⟩) (c28 : PySem.W.codeIn K cd28 "_law_lift_right" = true) (k28 : PySem.W.keepIn K (.ref f28) = true)
    {oc29 kV29 dc29 pm29 cd29 ct29 : Value} {od29 an29 : Option Addr} {sl29 : Array (Option Value)} {f29 : Addr}
    (a29 : PySem.W.nsIn K mainGlobals "law" = some (some (.ref f29))) (l29 : K.lookup f29 = some ⟨oc29, od29, .func (PySem.W.fnOf "law" "law" (defArgs (topS 29)) (defBody (topS 29)) (defScope (topS 29)) .none kV29 dc29 pm29 an29 cd29 ct29), sl29⟩) (c29 : PySem.W.codeIn K cd29 "law" = true) (k29 : PySem.W.keepIn K (.ref f29) = true)
    (z_len : PySem.W.nsIn K mainGlobals "len" = some none)
    (z_int : PySem.W.nsIn K mainGlobals "int" = some none)
    (z_bool : PySem.W.nsIn K mainGlobals "bool" = some none)
    (z_list : PySem.W.nsIn K mainGlobals "list" = some none)
    (z_tuple : PySem.W.nsIn K mainGlobals "tuple" = some none)
    (z_dict : PySem.W.nsIn K mainGlobals "dict" = some none)
    (z_range : PySem.W.nsIn K mainGlobals "range" = some none)
    (z_sorted : PySem.W.nsIn K mainGlobals "sorted" = some none)
    (z_isinstance : PySem.W.nsIn K mainGlobals "isinstance" = some none)
    (z_all : PySem.W.nsIn K mainGlobals "all" = some none)
    (z_max : PySem.W.nsIn K mainGlobals "max" = some none)
    (z_min : PySem.W.nsIn K mainGlobals "min" = some none)
    (z_ValueError : PySem.W.nsIn K mainGlobals "ValueError" = some none)
    (z_super : PySem.W.nsIn K mainGlobals "super" = some none)
    : ∃ fd : FuncData, (∀ (s : Shared) (v : Value), BindsTo s fd ⟨[v], []⟩ [("_law_script", v)]) ∧ ∀ base : Heap, K.In base → base.Ns mainGlobals mg → FnOk l.prog w K mg base CX0 6 fa fd ["_law_script"] (sp_law K) := by
  have e := hfa.symm.trans (PySem.W.mg_of X G a29)
  cases e
  let A : Nat → Addr := fun i => match i with
    | 5 => f5
    | 9 => f9
    | 13 => f13
    | 14 => f14
    | 15 => f15
    | 16 => f16
    | 17 => f17
    | 18 => f18
    | 19 => f19
    | 20 => f20
    | 21 => f21
    | 22 => f22
    | 23 => f23
    | 24 => f24
    | 25 => f25
    | 26 => f26
    | 27 => f27
    | 28 => f28
    | 29 => fa
    | 2 => f2
    | 3 => f3
    | 7 => f7
    | 11 => f11
    | 1142 => f1142
    | 1221 => f1221
    | 1222 => f1222
    | 4222 => cc1222
    | 5222 => ca1222
    | 1223 => f1223
    | 1224 => f1224
    | 1225 => f1225
    | 1227 => f1227
    | 1228 => f1228
    | 1233 => f1233
    | _ => 0
  let D : Nat → FuncData := fun i => match i with
    | 1142 => PySem.W.fnOf "is_valid" "Kind.is_valid" (defArgs (topM 7 2)) (defBody (topM 7 2)) (defScope (topM 7 2)) .none kV1142 dc1142 pm1142 an1142 cd1142 ct1142
    | 1221 => PySem.W.fnOf "names_in" "Steps.names_in" (defArgs (topM 11 1)) (defBody (topM 11 1)) (defScope (topM 11 1)) .none kV1221 dc1221 pm1221 an1221 cd1221 ct1221
    | 1222 => PySem.W.ksFn "is_valid" "Steps.is_valid" (defArgs (topM 11 2)) (defBody (topM 11 2)) (defScope (topM 11 2)) .none kV1222 dc1222 pm1222 an1222 (.ref ca1222) ct1222 cc1222
    | 1223 => PySem.W.fnOf "holds" "Steps.holds" (defArgs (topM 11 3)) (defBody (topM 11 3)) (defScope (topM 11 3)) .none kV1223 dc1223 pm1223 an1223 cd1223 ct1223
    | 1224 => PySem.W.fnOf "contradiction" "Steps.contradiction" (defArgs (topM 11 4)) (defBody (topM 11 4)) (defScope (topM 11 4)) .none kV1224 dc1224 pm1224 an1224 cd1224 ct1224
    | 1225 => PySem.W.fnOf "rename" "Steps.rename" (defArgs (topM 11 5)) (defBody (topM 11 5)) (defScope (topM 11 5)) .none kV1225 dc1225 pm1225 an1225 cd1225 ct1225
    | 1227 => PySem.W.fnOf "lift" "Steps.lift" (defArgs (topM 11 7)) (defBody (topM 11 7)) (defScope (topM 11 7)) .none kV1227 dc1227 pm1227 an1227 cd1227 ct1227
    | 1228 => PySem.W.fnOf "ground" "Steps.ground" (defArgs (topM 11 8)) (defBody (topM 11 8)) (defScope (topM 11 8)) .none kV1228 dc1228 pm1228 an1228 cd1228 ct1228
    | 1233 => PySem.W.fnOf "pin" "Steps.pin" (defArgs (topM 11 13)) (defBody (topM 11 13)) (defScope (topM 11 13)) .none kV1233 dc1233 pm1233 an1233 cd1233 ct1233
    | 5 => PySem.W.fnOf "value_of" "value_of" (defArgs (topS 5)) (defBody (topS 5)) (defScope (topS 5)) .none kV5 dc5 pm5 an5 cd5 ct5
    | 9 => PySem.W.fnOf "merge_names" "merge_names" (defArgs (topS 9)) (defBody (topS 9)) (defScope (topS 9)) .none kV9 dc9 pm9 an9 cd9 ct9
    | 13 => PySem.W.fnOf "_law_source" "_law_source" (defArgs (topS 13)) (defBody (topS 13)) (defScope (topS 13)) .none kV13 dc13 pm13 an13 cd13 ct13
    | 14 => PySem.W.fnOf "_law_draw" "_law_draw" (defArgs (topS 14)) (defBody (topS 14)) (defScope (topS 14)) .none kV14 dc14 pm14 an14 cd14 ct14
    | 15 => PySem.W.fnOf "_law_some" "_law_some" (defArgs (topS 15)) (defBody (topS 15)) (defScope (topS 15)) .none kV15 dc15 pm15 an15 cd15 ct15
    | 16 => PySem.W.fnOf "_law_bound" "_law_bound" (defArgs (topS 16)) (defBody (topS 16)) (defScope (topS 16)) .none kV16 dc16 pm16 an16 cd16 ct16
    | 17 => PySem.W.fnOf "_law_constraint" "_law_constraint" (defArgs (topS 17)) (defBody (topS 17)) (defScope (topS 17)) .none kV17 dc17 pm17 an17 cd17 ct17
    | 18 => PySem.W.fnOf "_law_theory" "_law_theory" (defArgs (topS 18)) (defBody (topS 18)) (defScope (topS 18)) .none kV18 dc18 pm18 an18 cd18 ct18
    | 19 => PySem.W.fnOf "_law_value" "_law_value" (defArgs (topS 19)) (defBody (topS 19)) (defScope (topS 19)) .none kV19 dc19 pm19 an19 cd19 ct19
    | 20 => PySem.W.fnOf "_law_same" "_law_same" (defArgs (topS 20)) (defBody (topS 20)) (defScope (topS 20)) .none kV20 dc20 pm20 an20 cd20 ct20
    | 21 => PySem.W.fnOf "_law_valid_right" "_law_valid_right" (defArgs (topS 21)) (defBody (topS 21)) (defScope (topS 21)) .none kV21 dc21 pm21 an21 cd21 ct21
    | 22 => PySem.W.fnOf "_law_holds_right" "_law_holds_right" (defArgs (topS 22)) (defBody (topS 22)) (defScope (topS 22)) .none kV22 dc22 pm22 an22 cd22 ct22
    | 23 => PySem.W.fnOf "_law_rename_right" "_law_rename_right" (defArgs (topS 23)) (defBody (topS 23)) (defScope (topS 23)) .none kV23 dc23 pm23 an23 cd23 ct23
    | 24 => PySem.W.fnOf "_law_pin_right" "_law_pin_right" (defArgs (topS 24)) (defBody (topS 24)) (defScope (topS 24)) .none kV24 dc24 pm24 an24 cd24 ct24
    | 25 => PySem.W.fnOf "_law_ground_right" "_law_ground_right" (defArgs (topS 25)) (defBody (topS 25)) (defScope (topS 25)) .none kV25 dc25 pm25 an25 cd25 ct25
    | 26 => PySem.W.fnOf "_law_first" "_law_first" (defArgs (topS 26)) (defBody (topS 26)) (defScope (topS 26)) .none kV26 dc26 pm26 an26 cd26 ct26
    | 27 => PySem.W.fnOf "_law_lifted" "_law_lifted" (defArgs (topS 27)) (defBody (topS 27)) (defScope (topS 27)) .none kV27 dc27 pm27 an27 cd27 ct27
    | 28 => PySem.W.fnOf "_law_lift_right" "_law_lift_right" (defArgs (topS 28)) (defBody (topS 28)) (defScope (topS 28)) .none kV28 dc28 pm28 an28 cd28 ct28
    | 29 => PySem.W.fnOf "law" "law" (defArgs (topS 29)) (defBody (topS 29)) (defScope (topS 29)) .none kV29 dc29 pm29 an29 cd29 ct29
    | _ => PySem.W.fnOf "law" "law" (defArgs (topS 29)) (defBody (topS 29)) (defScope (topS 29)) .none kV29 dc29 pm29 an29 cd29 ct29
  have T : Txt l.prog K mg A D := {
    g_ShadowError := PySem.W.mg_of X G a2
    g_NoSolution := PySem.W.mg_of X G a3
    E0_NoSolution := ⟨PySem.W.mg_of X G a3, ex_3, kC_3, tC_3, ⟨ga_3, gg_3, eC_3, hC_3, isa_3, isn_3, ist_3, ism_3⟩⟩
    x_NoSolution_ShadowError := PySem.W.exm_ref eC_2 hC_2 tC_2 sb_3_2
    k_NoSolution_ShadowError := ki_3_2
    x_NoSolution_NoSolution := PySem.W.exm_ref eC_3 hC_3 tC_3 sb_3_3
    k_NoSolution_NoSolution := ki_3_3
    kv_NoSolution := kv_3
    g_Kind := PySem.W.mg_of X G a7
    cl_Kind := ⟨pg7, hd7, po7, os7⟩
    cr_Kind := ⟨rd7, og7⟩
    sf_Kind := sf7
    mp_Kind := ⟨mk7, oi7, kp7⟩
    g_Steps := PySem.W.mg_of X G a11
    cl_Steps := ⟨pg11, hd11, po11, os11⟩
    cr_Steps := ⟨rd11, og11⟩
    sf_Steps := sf11
    mp_Steps := ⟨mk11, oi11, kp11⟩
    F_Kind_is_valid := fun_mk (st := (topM 7 2)) l1142 c1142 k1142
    b_Kind_is_valid := (fun_mk (st := (topM 7 2)) l1142 c1142 k1142).binds (ps := ["self", "names", "constraint"]) fun _ _ _ _ _ _ us hl => match us, hl with | [_, _, _], _ => rfl
    M_Kind_is_valid := ⟨at1142, fn1142, k1142⟩
    F_Steps_names_in := fun_mk (st := (topM 11 1)) l1221 c1221 k1221
    b_Steps_names_in := (fun_mk (st := (topM 11 1)) l1221 c1221 k1221).binds (ps := ["self", "constraint"]) fun _ _ _ _ _ _ us hl => match us, hl with | [_, _], _ => rfl
    M_Steps_names_in := ⟨at1221, fn1221, k1221⟩
    F_Steps_is_valid := ⟨⟨oc1222, od1222, kV1222, dc1222, pm1222, an1222, ct1222, sl1222, rfl, l1222, c1222⟩, k1222⟩
    b_Steps_is_valid := FunC.binds (st := (topM 11 2)) (ps := ["self", "names", "constraint"]) ⟨⟨oc1222, od1222, kV1222, dc1222, pm1222, an1222, ct1222, sl1222, rfl, l1222, c1222⟩, k1222⟩ fun _ _ _ _ _ _ us hl => match us, hl with | [_, _, _], _ => rfl
    M_Steps_is_valid := ⟨at1222, fn1222, k1222⟩
    S_Steps_is_valid := ⟨⟨_, _, _, ce1222⟩, ⟨_, _, _, _, _, _, co1222, rfv1222, rff1222⟩, ic1222, mr1222, any1222, ksu1222, ty1222, fi1222, rtp1222⟩
    F_Steps_holds := fun_mk (st := (topM 11 3)) l1223 c1223 k1223
    b_Steps_holds := (fun_mk (st := (topM 11 3)) l1223 c1223 k1223).binds (ps := ["self", "constraint", "assignment"]) fun _ _ _ _ _ _ us hl => match us, hl with | [_, _, _], _ => rfl
    M_Steps_holds := ⟨at1223, fn1223, k1223⟩
    F_Steps_contradiction := fun_mk (st := (topM 11 4)) l1224 c1224 k1224
    b_Steps_contradiction := (fun_mk (st := (topM 11 4)) l1224 c1224 k1224).binds (ps := ["self"]) fun _ _ _ _ _ _ us hl => match us, hl with | [_], _ => rfl
    M_Steps_contradiction := ⟨at1224, fn1224, k1224⟩
    F_Steps_rename := fun_mk (st := (topM 11 5)) l1225 c1225 k1225
    b_Steps_rename := (fun_mk (st := (topM 11 5)) l1225 c1225 k1225).binds (ps := ["self", "theory", "table"]) fun _ _ _ _ _ _ us hl => match us, hl with | [_, _, _], _ => rfl
    M_Steps_rename := ⟨at1225, fn1225, k1225⟩
    F_Steps_lift := fun_mk (st := (topM 11 7)) l1227 c1227 k1227
    b_Steps_lift := (fun_mk (st := (topM 11 7)) l1227 c1227 k1227).binds (ps := ["self", "theory", "name", "assignment"]) fun _ _ _ _ _ _ us hl => match us, hl with | [_, _, _, _], _ => rfl
    M_Steps_lift := ⟨at1227, fn1227, k1227⟩
    F_Steps_ground := fun_mk (st := (topM 11 8)) l1228 c1228 k1228
    b_Steps_ground := (fun_mk (st := (topM 11 8)) l1228 c1228 k1228).binds (ps := ["self", "theory"]) fun _ _ _ _ _ _ us hl => match us, hl with | [_, _], _ => rfl
    M_Steps_ground := ⟨at1228, fn1228, k1228⟩
    F_Steps_pin := fun_mk (st := (topM 11 13)) l1233 c1233 k1233
    b_Steps_pin := (fun_mk (st := (topM 11 13)) l1233 c1233 k1233).binds (ps := ["self", "names", "assignment"]) fun _ _ _ _ _ _ us hl => match us, hl with | [_, _, _], _ => rfl
    M_Steps_pin := ⟨at1233, fn1233, k1233⟩
    F_value_of := fun_mk (st := topS 5) l5 c5 k5
    g_value_of := PySem.W.mg_of X G a5
    b_value_of := (fun_mk (st := topS 5) l5 c5 k5).binds (ps := ["assignment", "name"]) fun _ _ _ _ _ _ us hl => match us, hl with | [_, _], _ => rfl
    F_merge_names := fun_mk (st := topS 9) l9 c9 k9
    g_merge_names := PySem.W.mg_of X G a9
    F__law_source := fun_mk (st := topS 13) l13 c13 k13
    g__law_source := PySem.W.mg_of X G a13
    b__law_source := (fun_mk (st := topS 13) l13 c13 k13).binds (ps := ["_law_script", "_law_k"]) fun _ _ _ _ _ _ us hl => match us, hl with | [_, _], _ => rfl
    F__law_draw := fun_mk (st := topS 14) l14 c14 k14
    g__law_draw := PySem.W.mg_of X G a14
    b__law_draw := (fun_mk (st := topS 14) l14 c14 k14).binds (ps := ["_law_source_here", "_law_limit"]) fun _ _ _ _ _ _ us hl => match us, hl with | [_, _], _ => rfl
    F__law_some := fun_mk (st := topS 15) l15 c15 k15
    g__law_some := PySem.W.mg_of X G a15
    b__law_some := (fun_mk (st := topS 15) l15 c15 k15).binds (ps := ["_law_source_here", "_law_names", "_law_most"]) fun _ _ _ _ _ _ us hl => match us, hl with | [_, _, _], _ => rfl
    F__law_bound := fun_mk (st := topS 16) l16 c16 k16
    g__law_bound := PySem.W.mg_of X G a16
    b__law_bound := (fun_mk (st := topS 16) l16 c16 k16).binds (ps := ["_law_source_here"]) fun _ _ _ _ _ _ us hl => match us, hl with | [_], _ => rfl
    F__law_constraint := fun_mk (st := topS 17) l17 c17 k17
    g__law_constraint := PySem.W.mg_of X G a17
    b__law_constraint := (fun_mk (st := topS 17) l17 c17 k17).binds (ps := ["_law_source_here", "_law_names"]) fun _ _ _ _ _ _ us hl => match us, hl with | [_, _], _ => rfl
    F__law_theory := fun_mk (st := topS 18) l18 c18 k18
    g__law_theory := PySem.W.mg_of X G a18
    b__law_theory := (fun_mk (st := topS 18) l18 c18 k18).binds (ps := ["_law_source_here"]) fun _ _ _ _ _ _ us hl => match us, hl with | [_], _ => rfl
    F__law_value := fun_mk (st := topS 19) l19 c19 k19
    g__law_value := PySem.W.mg_of X G a19
    b__law_value := (fun_mk (st := topS 19) l19 c19 k19).binds (ps := ["_law_values", "_law_name"]) fun _ _ _ _ _ _ us hl => match us, hl with | [_, _], _ => rfl
    F__law_same := fun_mk (st := topS 20) l20 c20 k20
    g__law_same := PySem.W.mg_of X G a20
    b__law_same := (fun_mk (st := topS 20) l20 c20 k20).binds (ps := ["_law_actual", "_law_expected"]) fun _ _ _ _ _ _ us hl => match us, hl with | [_, _], _ => rfl
    F__law_valid_right := fun_mk (st := topS 21) l21 c21 k21
    g__law_valid_right := PySem.W.mg_of X G a21
    b__law_valid_right := (fun_mk (st := topS 21) l21 c21 k21).binds (ps := ["_law_source_here", "_law_names"]) fun _ _ _ _ _ _ us hl => match us, hl with | [_, _], _ => rfl
    F__law_holds_right := fun_mk (st := topS 22) l22 c22 k22
    g__law_holds_right := PySem.W.mg_of X G a22
    b__law_holds_right := (fun_mk (st := topS 22) l22 c22 k22).binds (ps := ["_law_source_here", "_law_names"]) fun _ _ _ _ _ _ us hl => match us, hl with | [_, _], _ => rfl
    F__law_rename_right := fun_mk (st := topS 23) l23 c23 k23
    g__law_rename_right := PySem.W.mg_of X G a23
    b__law_rename_right := (fun_mk (st := topS 23) l23 c23 k23).binds (ps := ["_law_source_here", "_law_theory_here"]) fun _ _ _ _ _ _ us hl => match us, hl with | [_, _], _ => rfl
    F__law_pin_right := fun_mk (st := topS 24) l24 c24 k24
    g__law_pin_right := PySem.W.mg_of X G a24
    b__law_pin_right := (fun_mk (st := topS 24) l24 c24 k24).binds (ps := ["_law_source_here", "_law_names"]) fun _ _ _ _ _ _ us hl => match us, hl with | [_, _], _ => rfl
    F__law_ground_right := fun_mk (st := topS 25) l25 c25 k25
    g__law_ground_right := PySem.W.mg_of X G a25
    b__law_ground_right := (fun_mk (st := topS 25) l25 c25 k25).binds (ps := ["_law_source_here"]) fun _ _ _ _ _ _ us hl => match us, hl with | [_], _ => rfl
    F__law_first := fun_mk (st := topS 26) l26 c26 k26
    g__law_first := PySem.W.mg_of X G a26
    b__law_first := (fun_mk (st := topS 26) l26 c26 k26).binds (ps := ["_law_theory_here", "_law_name", "_law_values"]) fun _ _ _ _ _ _ us hl => match us, hl with | [_, _, _], _ => rfl
    F__law_lifted := fun_mk (st := topS 27) l27 c27 k27
    g__law_lifted := PySem.W.mg_of X G a27
    b__law_lifted := (fun_mk (st := topS 27) l27 c27 k27).binds (ps := ["_law_theory_here", "_law_name", "_law_values", "_law_expected"]) fun _ _ _ _ _ _ us hl => match us, hl with | [_, _, _, _], _ => rfl
    F__law_lift_right := fun_mk (st := topS 28) l28 c28 k28
    g__law_lift_right := PySem.W.mg_of X G a28
    b__law_lift_right := (fun_mk (st := topS 28) l28 c28 k28).binds (ps := ["_law_source_here", "_law_theory_here"]) fun _ _ _ _ _ _ us hl => match us, hl with | [_, _], _ => rfl
    F_law := fun_mk (st := topS 29) l29 c29 k29
    g_law := PySem.W.mg_of X G a29
    b_law := (fun_mk (st := topS 29) l29 c29 k29).binds (ps := ["_law_script"]) fun _ _ _ _ _ _ us hl => match us, hl with | [_], _ => rfl
    z_len := PySem.W.mg_none_of X G z_len
    z_int := PySem.W.mg_none_of X G z_int
    z_bool := PySem.W.mg_none_of X G z_bool
    z_list := PySem.W.mg_none_of X G z_list
    z_tuple := PySem.W.mg_none_of X G z_tuple
    z_dict := PySem.W.mg_none_of X G z_dict
    z_range := PySem.W.mg_none_of X G z_range
    z_sorted := PySem.W.mg_none_of X G z_sorted
    z_isinstance := PySem.W.mg_none_of X G z_isinstance
    z_all := PySem.W.mg_none_of X G z_all
    z_max := PySem.W.mg_none_of X G z_max
    z_min := PySem.W.mg_none_of X G z_min
    z_ValueError := PySem.W.mg_none_of X G z_ValueError
    z_super := PySem.W.mg_none_of X G z_super
  }
  exact ⟨D 29, fun s v => .of_eq rfl, fun base _ _ => ok_law T⟩
theorem walk {l : PySem.W.OpenLaw} {q : Program} {loose : List Str} {XP : (Str → Option Value) → Heap → Prop} {YP : World → Heap → Prop} {d : DefRec} {K : Params → PySem.W.Frag} (hn : l.most = some 63) (hdf : d.params.defaults = [])
    (hY : ∀ (w : World) (h : Heap), YP w h → (K w.params).In h)
    (F : ∀ (w : World) (mg : Str → Option Value) (fa : Addr) (h : Heap), (K w.params).In h → h.Ns mainGlobals mg → mg d.name = some (.ref fa) →
      ∃ fd : FuncData, (∀ (s : Shared) (u : Value), BindsTo s fd ⟨[u], []⟩ [("_law_script", u)]) ∧ ∀ base : Heap, (K w.params).In base → base.Ns mainGlobals mg → FnOk l.prog w (K w.params) mg base CX0 6 fa fd ["_law_script"] (sp_law (K w.params))) :
    PySem.W.WalkO q loose XP YP l.row.toRowW d [] (fun f vs => PySem.call f vs) :=
  L2.walk_of (n := 63) (k := 6) (x := "_law_script") (CX := fun _ => CX0) (sp := fun w => sp_law (K w.params)) hn (by decide) hdf ⟨rfl, by decide, by decide⟩ hY F (fun _ H a ns hl hO hS => ⟨a, ns, rfl, hS, hl, fun _ => rfl⟩) fun _ _ _ _ _ z => z
end Sl
open PySem PySem.W PyProof.Rows
set_option maxRecDepth 100000 in
set_option maxHeartbeats 0 in
theorem PySem.Challenge.cw_shadowlinks_k14_step_constraints_holds : PySem.Challenge.rw_shadowlinks_k14_step_constraints.Holds := by
  w_on; o_law; k_head; (case hw => w_witness2)
  k_fill
  refine Sl.walk (l := PySem.Challenge.rw_shadowlinks_k14_step_constraints) rfl rfl (fun w h Y => PySem.W.kIn_of Y) ?F
  case F =>
    intro w mg fa h KX G hmg
    refine' Sl.all_mk KX G hmg ?a2 ?a3 ?ex_3 ?kC_3 ?tC_3 ?ga_3 ?gg_3 ?eC_3 ?hC_3 ?isa_3 ?isn_3 ?ist_3 ?ism_3 ?sb_3_2 ?ki_3_2 ?eC_2 ?tC_2 ?hC_2 ?sb_3_3 ?ki_3_3 ?kv_3 ?a7 ?pg7 ?hd7 ?po7 ?os7 ?rd7 ?og7 ?sf7 ?mk7 ?oi7 ?kp7 ?a11 ?pg11 ?hd11 ?po11 ?os11 ?rd11 ?og11 ?sf11 ?mk11 ?oi11 ?kp11 ?at1142 ?fn1142 ?l1142 ?c1142 ?k1142 ?at1221 ?fn1221 ?l1221 ?c1221 ?k1221 ?at1222 ?fn1222 ?l1222 ?c1222 ?k1222 ?ce1222 ?co1222 ?rfv1222 ?rff1222 ?rtp1222 ?at1223 ?fn1223 ?l1223 ?c1223 ?k1223 ?at1224 ?fn1224 ?l1224 ?c1224 ?k1224 ?at1225 ?fn1225 ?l1225 ?c1225 ?k1225 ?at1227 ?fn1227 ?l1227 ?c1227 ?k1227 ?at1228 ?fn1228 ?l1228 ?c1228 ?k1228 ?at1233 ?fn1233 ?l1233 ?c1233 ?k1233 ?ic1222 ?mr1222 ?any1222 ?ksu1222 ?ty1222 ?fi1222 ?a5 ?l5 ?c5 ?k5 ?a9 ?l9 ?c9 ?k9 ?a13 ?l13 ?c13 ?k13 ?a14 ?l14 ?c14 ?k14 ?a15 ?l15 ?c15 ?k15 ?a16 ?l16 ?c16 ?k16 ?a17 ?l17 ?c17 ?k17 ?a18 ?l18 ?c18 ?k18 ?a19 ?l19 ?c19 ?k19 ?a20 ?l20 ?c20 ?k20 ?a21 ?l21 ?c21 ?k21 ?a22 ?l22 ?c22 ?k22 ?a23 ?l23 ?c23 ?k23 ?a24 ?l24 ?c24 ?k24 ?a25 ?l25 ?c25 ?k25 ?a26 ?l26 ?c26 ?k26 ?a27 ?l27 ?c27 ?k27 ?a28 ?l28 ?c28 ?k28 ?a29 ?l29 ?c29 ?k29 ?z_len ?z_int ?z_bool ?z_list ?z_tuple ?z_dict ?z_range ?z_sorted ?z_isinstance ?z_all ?z_max ?z_min ?z_ValueError ?z_super
    (case a2 => k_is)
    (case a3 => k_is)
    (case ex_3 => k_exc)
    (case kC_3 => k_is)
    (case tC_3 => k_is)
    (case ga_3 => k_is)
    (case gg_3 => k_is)
    (case eC_3 => k_is)
    (case hC_3 => k_is)
    (case isa_3 => k_is)
    (case isn_3 => k_is)
    (case ist_3 => k_is)
    (case ism_3 => k_is)
    (case sb_3_2 => first | rfl | k_is)
    (case ki_3_2 => first | kit_is | k_is)
    (case eC_2 => k_is)
    (case tC_2 => k_is)
    (case hC_2 => k_is)
    (case sb_3_3 => first | rfl | k_is)
    (case ki_3_3 => first | kit_is | k_is)
    (case kv_3 => first | kit_is | k_is)
    (case a7 => k_is)
    (case pg7 => k_is)
    (case hd7 => k_is)
    (case po7 => k_is)
    (case os7 => k_is)
    (case rd7 => k_is)
    (case og7 => k_is)
    (case sf7 => k_is)
    (case mk7 => k_is)
    (case oi7 => k_is)
    (case kp7 => k_is)
    (case a11 => k_is)
    (case pg11 => k_is)
    (case hd11 => k_is)
    (case po11 => k_is)
    (case os11 => k_is)
    (case rd11 => k_is)
    (case og11 => k_is)
    (case sf11 => k_is)
    (case mk11 => k_is)
    (case oi11 => k_is)
    (case kp11 => k_is)
    (case at1142 => k_is)
    (case fn1142 => k_is)
    (case l1142 => k_is)
    (case c1142 => k_is)
    (case k1142 => k_is)
    (case at1221 => k_is)
    (case fn1221 => k_is)
    (case l1221 => k_is)
    (case c1221 => k_is)
    (case k1221 => k_is)
    (case at1222 => k_is)
    (case fn1222 => k_is)
    (case l1222 => k_is)
    (case c1222 => k_is)
    (case k1222 => k_is)
    (case ce1222 => k_is)
    (case co1222 => k_is)
    (case rfv1222 => first | rfl | decide +kernel)
    (case rff1222 => first | rfl | decide +kernel)
    (case rtp1222 => first | rfl | decide +kernel)
    (case at1223 => k_is)
    (case fn1223 => k_is)
    (case l1223 => k_is)
    (case c1223 => k_is)
    (case k1223 => k_is)
    (case at1224 => k_is)
    (case fn1224 => k_is)
    (case l1224 => k_is)
    (case c1224 => k_is)
    (case k1224 => k_is)
    (case at1225 => k_is)
    (case fn1225 => k_is)
    (case l1225 => k_is)
    (case c1225 => k_is)
    (case k1225 => k_is)
    (case at1227 => k_is)
    (case fn1227 => k_is)
    (case l1227 => k_is)
    (case c1227 => k_is)
    (case k1227 => k_is)
    (case at1228 => k_is)
    (case fn1228 => k_is)
    (case l1228 => k_is)
    (case c1228 => k_is)
    (case k1228 => k_is)
    (case at1233 => k_is)
    (case fn1233 => k_is)
    (case l1233 => k_is)
    (case c1233 => k_is)
    (case k1233 => k_is)
    (case ic1222 => k_is)
    (case mr1222 => k_is)
    (case any1222 => k_is)
    (case ksu1222 => first | kernel_rfl | k_is)
    (case ty1222 => k_is)
    (case fi1222 => k_is)
    (case a5 => k_is)
    (case l5 => k_is)
    (case c5 => k_is)
    (case k5 => k_is)
    (case a9 => k_is)
    (case l9 => k_is)
    (case c9 => k_is)
    (case k9 => k_is)
    (case a13 => k_is)
    (case l13 => k_is)
    (case c13 => k_is)
    (case k13 => k_is)
    (case a14 => k_is)
    (case l14 => k_is)
    (case c14 => k_is)
    (case k14 => k_is)
    (case a15 => k_is)
    (case l15 => k_is)
    (case c15 => k_is)
    (case k15 => k_is)
    (case a16 => k_is)
    (case l16 => k_is)
    (case c16 => k_is)
    (case k16 => k_is)
    (case a17 => k_is)
    (case l17 => k_is)
    (case c17 => k_is)
    (case k17 => k_is)
    (case a18 => k_is)
    (case l18 => k_is)
    (case c18 => k_is)
    (case k18 => k_is)
    (case a19 => k_is)
    (case l19 => k_is)
    (case c19 => k_is)
    (case k19 => k_is)
    (case a20 => k_is)
    (case l20 => k_is)
    (case c20 => k_is)
    (case k20 => k_is)
    (case a21 => k_is)
    (case l21 => k_is)
    (case c21 => k_is)
    (case k21 => k_is)
    (case a22 => k_is)
    (case l22 => k_is)
    (case c22 => k_is)
    (case k22 => k_is)
    (case a23 => k_is)
    (case l23 => k_is)
    (case c23 => k_is)
    (case k23 => k_is)
    (case a24 => k_is)
    (case l24 => k_is)
    (case c24 => k_is)
    (case k24 => k_is)
    (case a25 => k_is)
    (case l25 => k_is)
    (case c25 => k_is)
    (case k25 => k_is)
    (case a26 => k_is)
    (case l26 => k_is)
    (case c26 => k_is)
    (case k26 => k_is)
    (case a27 => k_is)
    (case l27 => k_is)
    (case c27 => k_is)
    (case k27 => k_is)
    (case a28 => k_is)
    (case l28 => k_is)
    (case c28 => k_is)
    (case k28 => k_is)
    (case a29 => k_is)
    (case l29 => k_is)
    (case c29 => k_is)
    (case k29 => k_is)
    (case z_len => k_is)
    (case z_int => k_is)
    (case z_bool => k_is)
    (case z_list => k_is)
    (case z_tuple => k_is)
    (case z_dict => k_is)
    (case z_range => k_is)
    (case z_sorted => k_is)
    (case z_isinstance => k_is)
    (case z_all => k_is)
    (case z_max => k_is)
    (case z_min => k_is)
    (case z_ValueError => k_is)
    (case z_super => k_is)
