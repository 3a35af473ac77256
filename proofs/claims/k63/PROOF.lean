import PyProof.Rows.All
import Wide.All
import OpenK.AllK
import Wide.FinOn
import HandS.ForMost
import HandS.Walk
import HandS.IsInst
import HandS.Wide
import HandS.Gcd
import HandS.Star
import HandS.Flow
import HandS.EndBits
import HandS.Conv
import HandS.Deep
import HandS.TupAny
import HandS.Codes
import KE.SortData
import KE.SortKeyHeap
import KE.DataCmp
import KE.DataEq
import HandS.Style
import HandS.ExcOwn
import HandS.CallSlots
import HandS.Property
import HandS.Iter
import HandS.IterVal
import KE.KOpsOwn
import KE.KOwnIter
import HandS.OwnIter
import HandS.ClsMeth
import HandS.CallRecv
import KE.KSuper
import HandS.Nested
import HandS.SortKw
import PyProof.WalkInts
import HandS.Exc
import HandS.ExcIs
import HandS.ExcField
import HandS.WordsExc
import HandS.TryOnly
import HandS.More
import HandS.SetKeys
import HandS.DictComp
import HandS.DictTup
import HandS.ReCall
import PyProof.Rows.MatchSeqLen
import PyProof.RulesMatchSeq
import PyProof.DictRoadsH
import PyProof.DictMoreH
import PyProof.DictWalks
import KE.KDictWalk
import KE.KeyNested
import KE.KDictKeyed
import KE.KDictCopyH
import HandS.TupLen
import HandS.Comp
import PyProof.DictUpdate
import PyProof.DictDisplay
import PyProof.MeetsSeq2
import HandS.Rev
import HandS.RevTup
import HandS.Defaults
import PySem.Challenge.RW_shadowlinks_k63_middles
set_option Elab.async false
set_option linter.all false
set_option maxRecDepth 100000
set_option maxHeartbeats 4000000
namespace Sl
open PySem PySem.Spec PyProof.Rows L2
/-- a tuple, as it stands or held -/
def isTup : HO → Bool
  | .tup _ => true
  | .frz _ (.tup _) => true
  | _ => false
/-- a new address -/
structure Fr (H : Hp) (p : Addr) : Prop where
  eq : H p = none
/-- all stands but what is at A (tuples stand anyway) -/
def Kp (A : List Addr) (H H' : Hp) : Prop := ∀ a o, H a = some o → (a ∉ A ∨ isTup o = true) → H' a = some o
section
variable {A B : List Addr} {H H' H1 H2 : Hp} {p q a : Addr} {o o' u : HO}
theorem Kp.refl : Kp A H H := fun _ _ h _ => h
theorem Kp.trans (x : Kp A H H1) (y : Kp A H1 H2) : Kp A H H2 := fun a o h k => y a o (x a o h k) k
theorem Kp.sub (x : Kp A H H') (h : ∀ a ∈ A, a ∈ B) : Kp B H H' := fun a o e k => x a o e (k.imp (fun n m => n (h a m)) id)
theorem Kp.nil (x : Kp [] H H') : Kp B H H' := x.sub fun _ h => nomatch h
theorem Kp.new (h : H p = none) : Kp A H (upd H p o) := fun a u e _ => by
  rw [upd_ne (ne_of_none e h)]; exact e
theorem Kp.own (h : H p = some o) (t : isTup o = false) (m : p ∈ A) : Kp A H (upd H p o') := fun a u e k => by
  by_cases z : a = p
  · subst z
    rw [h] at e
    cases e
    rcases k with k | k
    · exact absurd m k
    · rw [t] at k; cases k
  · rw [upd_ne z]; exact e
/-- a new one, then changed: nothing that stood is touched -/
theorem Kp.back (h : H p = none) (x : Kp (p :: A) H H') : Kp A H H' := fun a o e k => x a o e (k.imp (fun n => by
  simp only [List.mem_cons, not_or]
  exact ⟨ne_of_none e h, n⟩) id)
/-- a change at what was new -/
theorem Kp.put (x : Kp A H H1) (h : H p = none) : Kp A H (upd H1 p o) := fun a u e k => by
  rw [upd_ne (ne_of_none e h)]; exact x a u e k
theorem Kp.none (x : Kp A H H') (n : a ∉ A) (h : H' a = none) : H a = none := by
  cases e : H a with
  | none => rfl
  | some o => have := x _ _ e (.inl n); rw [h] at this; cases this
theorem Kp.rd (x : Kp A H H') (h : Rd H a o) (n : a ∉ A) : Rd H' a o := by
  rcases h with h | ⟨z, h⟩
  · exact .inl (x _ _ h (.inl n))
  · exact .inr ⟨z, x _ _ h (.inl n)⟩
theorem Kp.sqT {K : PySem.W.Frag} {xs : List V} (x : Kp A H H') (h : SqT K H a xs) : SqT K H' a xs := by
  rcases h with (h | ⟨z, h⟩) | h
  · exact .inl (.inl (x _ _ h (.inr rfl)))
  · exact .inl (.inr ⟨z, x _ _ h (.inr rfl)⟩)
  · exact .inr h
end
/-! ### data that stands -/
section
variable (A : List Addr) (K : PySem.W.Frag) (H : Hp)
mutual
inductive Dv : V → PyData → Prop
  | non : Dv .non .none
  | bl (b : Bool) : Dv (.bl b) (.bool b)
  | int (i : Int) : Dv (.int i) (.int i)
  | str (x : Str) : Dv (.str x) (.str x)
  | lst {a : Addr} {xs : List V} {ds : List PyData} : Rd H a (.lst xs) → a ∉ A → DvAll xs ds → Dv (.ref a) (.list ds)
  | tup {a : Addr} {xs : List V} {ds : List PyData} : SqT K H a xs → DvAll xs ds → Dv (.ref a) (.tuple ds)
inductive DvAll : List V → List PyData → Prop
  | nil : DvAll [] []
  | cons {v : V} {vs : List V} {d : PyData} {ds : List PyData} : Dv v d → DvAll vs ds → DvAll (v :: vs) (d :: ds)
end
end
section
variable {A B : List Addr} {K : PySem.W.Frag} {H H' : Hp} {p q a : Addr} {o o' u : HO} {v : V} {d : PyData}
mutual
theorem Dv.kp (k : Kp A H H') : ∀ {v : V} {d : PyData}, Dv A K H v d → Dv A K H' v d
  | _, _, .non => .non
  | _, _, .bl b => .bl b
  | _, _, .int i => .int i
  | _, _, .str x => .str x
  | _, _, .lst h n t => .lst (k.rd h n) n (DvAll.kp k t)
  | _, _, .tup h t => .tup (k.sqT h) (DvAll.kp k t)
theorem DvAll.kp (k : Kp A H H') : ∀ {vs : List V} {ds : List PyData}, DvAll A K H vs ds → DvAll A K H' vs ds
  | _, _, .nil => .nil
  | _, _, .cons h t => .cons (Dv.kp k h) (DvAll.kp k t)
end
mutual
theorem Dv.sub (k : ∀ a ∈ B, a ∈ A) : ∀ {v : V} {d : PyData}, Dv A K H v d → Dv B K H v d
  | _, _, .non => .non
  | _, _, .bl b => .bl b
  | _, _, .int i => .int i
  | _, _, .str x => .str x
  | _, _, .lst h n t => .lst h (fun m => n (k _ m)) (DvAll.sub k t)
  | _, _, .tup h t => .tup h (DvAll.sub k t)
theorem DvAll.sub (k : ∀ a ∈ B, a ∈ A) : ∀ {vs : List V} {ds : List PyData}, DvAll A K H vs ds → DvAll B K H vs ds
  | _, _, .nil => .nil
  | _, _, .cons h t => .cons (Dv.sub k h) (DvAll.sub k t)
end
mutual
def flatT : PyData → Bool
  | .list _ => false
  | .dict _ => false
  | .tuple ds => flatTs ds
  | _ => true
def flatTs : List PyData → Bool
  | [] => true
  | d :: ds => flatT d && flatTs ds
end
mutual
theorem Dv.any : ∀ {v : V} {d : PyData}, flatT d = true → Dv A K H v d → Dv B K H v d
  | _, _, _, .non => .non
  | _, _, _, .bl b => .bl b
  | _, _, _, .int i => .int i
  | _, _, _, .str x => .str x
  | _, _, e, .lst r n t => by simp [flatT] at e
  | _, _, e, .tup r t => .tup r (DvAll.any (by simpa [flatT] using e) t)
theorem DvAll.any : ∀ {vs : List V} {ds : List PyData}, flatTs ds = true → DvAll A K H vs ds → DvAll B K H vs ds
  | _, _, _, .nil => .nil
  | _, _, e, .cons r t => by
    simp only [flatTs, Bool.and_eq_true] at e
    exact .cons (Dv.any e.1 r) (DvAll.any e.2 t)
end
mutual
theorem Dv.dp : ∀ {v : V} {d : PyData}, Dv A K H v d → Dp K H v d
  | _, _, .non => .non
  | _, _, .bl b => .bl b
  | _, _, .int i => .int i
  | _, _, .str x => .str x
  | _, _, .lst h n t => .lst (.inl h) (DvAll.dp t)
  | _, _, .tup h t => .tup h (DvAll.dp t)
theorem DvAll.dp : ∀ {vs : List V} {ds : List PyData}, DvAll A K H vs ds → DpAll K H vs ds
  | _, _, .nil => .nil
  | _, _, .cons h t => .cons (Dv.dp h) (DvAll.dp t)
end
theorem DvAll.length : ∀ {vs : List V} {ds : List PyData}, DvAll A K H vs ds → vs.length = ds.length
  | _, _, .nil => rfl
  | _, _, .cons _ t => congrArg Nat.succ (DvAll.length t)
theorem DvAll.at : ∀ {vs : List V} {ds : List PyData} {i : Nat} {v : V}, DvAll A K H vs ds → vs[i]? = some v → ∃ d, ds[i]? = some d ∧ Dv A K H v d
  | _, _, i, v, .nil, h => by simp at h
  | _, _, 0, v, .cons h _, e => by cases e; exact ⟨_, rfl, h⟩
  | _, _, i + 1, v, .cons _ t, e => DvAll.at (i := i) t e
theorem DvAll.at' : ∀ {vs : List V} {ds : List PyData} {i : Nat} {d : PyData}, DvAll A K H vs ds → ds[i]? = some d → ∃ v, vs[i]? = some v ∧ Dv A K H v d
  | _, _, i, v, .nil, h => by simp at h
  | _, _, 0, v, .cons h _, e => by cases e; exact ⟨_, rfl, h⟩
  | _, _, i + 1, v, .cons _ t, e => DvAll.at' (i := i) t e
theorem DvAll.app : ∀ {vs ws : List V} {ds es : List PyData}, DvAll A K H vs ds → DvAll A K H ws es → DvAll A K H (vs ++ ws) (ds ++ es)
  | _, _, _, _, .nil, h => h
  | _, _, _, _, .cons h t, r => .cons h (DvAll.app t r)
theorem DvAll.one (h : Dv A K H v d) : DvAll A K H [v] [d] := .cons h .nil
theorem DvAll.snoc {vs : List V} {ds : List PyData} (t : DvAll A K H vs ds) (h : Dv A K H v d) : DvAll A K H (vs ++ [v]) (ds ++ [d]) := t.app (.one h)
end
theorem rvRef (a : Addr) : RelV (.ref a) (.ref a) := rfl
theorem sz {n : Nat} (h : n ≤ 100000) : n ≤ sizeLine := Nat.le_trans h (by decide)
theorem szl {n : Nat} (h : n < 100000) : n < sizeLine := Nat.lt_of_lt_of_le h (by decide)
/-! ### the source of draws -/
def Src (H : Hp) (a : Addr) : Prop := ∃ n c : Int, H a = some (.lst [.int n, .int c])
theorem Src.kp {A : List Addr} {H H' : Hp} {a : Addr} (k : Kp A H H') (n : a ∉ A) (h : Src H a) : Src H' a := by
  obtain ⟨x, y, e⟩ := h
  exact ⟨x, y, k _ _ e (.inl n)⟩
end Sl
namespace Sl
open PySem PySem.Spec PyProof.Rows L2
section
variable {X : Cx} {CX : CXT} {k : Nat} {f : Addr} {sp : Sp} {E : XK} {x : Str} {e : Expr} {es : List Expr} {t : TA} {p pos : Pos}
/-- f(e, ..), f of any binding, by a positional promise -/
theorem pe_callF (F : FnR X.prog X.w X.K X.mg X.base CX k f sp) (hr : Room k X.A) (hk : PySem.W.keepIn X.K (.ref f) = true) (hg : Gl X x) (hm : X.mg x = some (.ref f)) (hx : Passes CX X E) (ha : PA X (e :: es) t) (hdb : (x == ("__debug__" : Str)) = false := by decide)
    (he : starEach (e :: es) X.env = (false, eval e X.env) :: starEach es X.env := by rfl) (hpl : (backTo pos (starEach es X.env)).any (·.1) = false := by rfl) :
    PE X (.Call (.Name x p) (e :: es) [] pos) (fun σ H Q => t σ H fun vs H1 => sp vs H1 Q E) := by
  refine ⟨fun pins s σ H Q I h => ?_⟩
  refine wpAny_Call_Name_kw (ld_glob I hg hm ?_ hdb)
  refine PySem.W.callWith_K (h₀ := X.base) I.ok.mod.kin hk (thn (ha.run pos pins s σ H _ I h) fun us s1 ⟨vs, H1, I1, r, q⟩ => ⟨I1.kIn, ?_⟩) he hpl
  exact wpAny_call (run_fnR F hr hx I1 r q)
/-- def f(.., *v): n written, the rest a new tuple -/
def star (n : Nat) (sp : Sp) : Sp := fun vs H Q E => ∃ ws rest, vs = ws ++ rest ∧ ws.length = n ∧ rest.length ≤ sizeLine ∧ ∀ p, H p = Option.none → sp (ws ++ [V.ref p]) (upd H p (.tup rest)) Q E
end
end Sl
namespace Sl
open PySem PySem.Spec PyProof.Rows L2
/-! ### two readings of one term -/
section
variable {X : Cx}
theorem pi_or {tg e : Expr} {w1 w2 : TI} (h1 : PI X tg e w1) (h2 : PI X tg e w2) : PI X tg e (fun σ H R => w1 σ H R ∨ w2 σ H R) :=
  ⟨fun pins s σ H R I h => h.elim (h1.run pins s σ H R I) (h2.run pins s σ H R I)⟩
end
theorem nox_ex {X : Cx} {b : List Stmt} {R : TS → Prop} (h : ∃ t, PSs X.nox b t ∧ R t) : ∃ t, PSs X b t ∧ R t := by
  obtain ⟨t, h1, h2⟩ := h
  exact ⟨t, h1.nox, h2⟩
/-! ### texts in ascending order -/
def slt (a b : Str) : Prop := TL.tl a < TL.tl b
instance (a b : Str) : Decidable (slt a b) := inferInstanceAs (Decidable (TL.tl a < TL.tl b))
theorem ltCps_iff : ∀ a b : List Nat, ltCps a b = true ↔ a < b
  | [], [] => by simp [ltCps]
  | [], b :: bs => by simp [ltCps]
  | a :: as, [] => by simp [ltCps]
  | a :: as, b :: bs => by
    have ih := ltCps_iff as bs
    simp only [ltCps, List.cons_lt_cons_iff, Bool.or_eq_true, Bool.and_eq_true, decide_eq_true_eq, beq_iff_eq, ih]
theorem slt_trans {a b c : Str} (h : slt a b) (h' : slt b c) : slt a c := List.lt_trans h h'
theorem slt_irrefl (a : Str) : ¬ slt a a := List.lt_irrefl _
theorem slt_tri (a b : Str) : slt a b ∨ a = b ∨ slt b a := by
  by_cases h : slt a b
  · exact .inl h
  · by_cases h' : slt b a
    · exact .inr (.inr h')
    · exact .inr (.inl (TL.ext_tl (List.le_antisymm (List.not_lt.mp h') (List.not_lt.mp h))))
theorem slt_asymm {a b : Str} (h : slt a b) : ¬ slt b a := fun h' => slt_irrefl _ (slt_trans h h')
/-- strictly ascending -/
def Asc (l : List Str) : Prop := l.Pairwise slt
theorem rising_pw : ∀ (p : Str) (l : List Str), risingS p l = true → (p :: l).Pairwise (fun a b => ¬ slt b a)
  | p, [], _ => List.pairwise_singleton _ _
  | p, x :: r, h => by
    simp only [risingS, Bool.and_eq_true, Bool.not_eq_true'] at h
    have ih := rising_pw x r h.2
    have hpx : ¬ slt x p := fun z => by rw [(ltCps_iff _ _).mpr z] at h; exact Bool.noConfusion h.1
    refine List.pairwise_cons.mpr ⟨fun y hy => ?_, ih⟩
    rcases List.mem_cons.mp hy with e | e
    · subst e; exact hpx
    · intro z
      have hxy := (List.pairwise_cons.mp ih).1 y e
      rcases slt_tri x y with q | q | q
      · exact hpx (slt_trans q z)
      · subst q; exact hpx z
      · exact hxy q
theorem Asc.nodup {l : List Str} (h : Asc l) : l.Nodup := h.imp fun q e => by subst e; exact slt_irrefl _ q
/-- ascending lists with the same members are one -/
theorem Asc.ext : ∀ {l m : List Str}, Asc l → Asc m → (∀ x, x ∈ l ↔ x ∈ m) → l = m
  | [], [], _, _, _ => rfl
  | [], y :: m, _, _, h => absurd ((h y).mpr (List.mem_cons_self ..)) List.not_mem_nil
  | x :: l, [], _, _, h => absurd ((h x).mp (List.mem_cons_self ..)) List.not_mem_nil
  | x :: l, y :: m, hl, hm, h => by
    have h1 := List.pairwise_cons.mp hl
    have h2 := List.pairwise_cons.mp hm
    have e : x = y := by
      rcases List.mem_cons.mp ((h x).mp (List.mem_cons_self ..)) with e | e
      · exact e
      · rcases List.mem_cons.mp ((h y).mpr (List.mem_cons_self ..)) with e' | e'
        · exact e'.symm
        · exact absurd (slt_trans (h2.1 x e) (h1.1 y e')) (slt_irrefl _)
    subst e
    rw [Asc.ext h1.2 h2.2 fun z => ?_]
    constructor
    · intro hz
      rcases List.mem_cons.mp ((h z).mp (List.mem_cons_of_mem _ hz)) with e | e
      · subst e; exact absurd (h1.1 _ hz) (slt_irrefl _)
      · exact e
    · intro hz
      rcases List.mem_cons.mp ((h z).mpr (List.mem_cons_of_mem _ hz)) with e | e
      · subst e; exact absurd (h2.1 _ hz) (slt_irrefl _)
      · exact e
/-- one for each -/
def All2 {α β : Type} (R : α → β → Prop) : List α → List β → Prop
  | [], [] => True
  | x :: xs, y :: ys => R x y ∧ All2 R xs ys
  | _, _ => False
theorem All2.at {α β : Type} {R : α → β → Prop} : ∀ {xs : List α} {ys : List β} {i : Nat} {x : α}, All2 R xs ys → xs[i]? = some x → ∃ y, ys[i]? = some y ∧ R x y
  | [], _, _, _, _, e => by simp at e
  | x :: xs, [], _, _, h, _ => False.elim h
  | x :: xs, y :: ys, 0, _, h, e => by cases e; exact ⟨y, rfl, h.1⟩
  | x :: xs, y :: ys, i + 1, _, h, e => All2.at (i := i) h.2 e
theorem All2.length {α β : Type} {R : α → β → Prop} : ∀ {xs : List α} {ys : List β}, All2 R xs ys → xs.length = ys.length
  | [], [], _ => rfl
  | [], _ :: _, h => False.elim h
  | _ :: _, [], h => False.elim h
  | x :: xs, y :: ys, h => congrArg Nat.succ (All2.length h.2)
theorem All2.imp {α β : Type} {R S : α → β → Prop} (k : ∀ x y, R x y → S x y) : ∀ {xs : List α} {ys : List β}, All2 R xs ys → All2 S xs ys
  | [], [], _ => trivial
  | [], _ :: _, h => False.elim h
  | _ :: _, [], h => False.elim h
  | x :: xs, y :: ys, h => ⟨k _ _ h.1, All2.imp k h.2⟩
theorem All2.snoc {α β : Type} {R : α → β → Prop} : ∀ {xs : List α} {ys : List β} {x : α} {y : β}, All2 R xs ys → R x y → All2 R (xs ++ [x]) (ys ++ [y])
  | [], [], _, _, _, h => ⟨h, trivial⟩
  | [], _ :: _, _, _, h, _ => False.elim h
  | _ :: _, [], _, _, h, _ => False.elim h
  | x :: xs, y :: ys, _, _, h, k => ⟨h.1, All2.snoc h.2 k⟩
end Sl
namespace Sl
open PySem PySem.Spec PyProof.Rows L2
/-! ### tests whose answer is told -/
/-- the answer is b, the heap stands -/
def An (t : TT) (σ : L2.St) (H : Hp) (b : Bool) : Prop := ∀ Q : Bool → Hp → Prop, Q b H → t σ H Q
/-- the value is v, the heap stands -/
def Vl (t : TE) (σ : L2.St) (H : Hp) (v : V) : Prop := ∀ Q : VK, Q v H → t σ H Q
section
variable {σ : L2.St} {H : Hp} {t u c : TT} {a b : Bool} {ta tb : TE} {x y z v : V} {D : Ends} {t1 t2 s2 : TS}
theorem An.to (h : An t σ H a) (e : a = b) : An t σ H b := e ▸ h
theorem Vl.to (h : Vl ta σ H x) (e : x = y) : Vl ta σ H y := e ▸ h
end
end Sl
namespace Sl
open PySem PySem.Spec PyProof.Rows L2
/-! ### data of written depth -/
/-- all signs are signs -/
def okS (s : Str) : Prop := ∀ c ∈ TL.tl s, c < 1114112
theorem okS.ok {s : Str} (h : okS s) : PyData.canLay0 (.str s) = true := by
  show PyData.strOk s = true
  unfold PyData.strOk
  rw [Array.all_eq_true']
  intro c hc
  simpa using h c (Array.mem_toList_iff.mpr hc)
end Sl
namespace Sl
open PySem PySem.Spec PyProof.Rows L2
/-! ### rules by K alone (they go into a comprehension's block) -/
def rListOf (K : PySem.W.Frag) : List V → Hp → VK → Prop := fun xs H Q => ∃ p ys, xs = [.ref p] ∧ (SqL K H p ys ∨ SqT K H p ys) ∧ ∀ l, H l = none → Q (.ref l) (upd H l (.lst ys))
def rTupleOf (K : PySem.W.Frag) : List V → Hp → VK → Prop := fun xs H Q => ∃ p ys, xs = [.ref p] ∧ ((SqL K H p ys ∧ ∀ l, H l = none → Q (.ref l) (upd H l (.tup ys))) ∨ (SqT K H p ys ∧ Q (.ref p) H))
def rLenK (K : PySem.W.Frag) : List V → Hp → VK → Prop := fun xs H Q => ∃ x n, xs = [x] ∧ LenV K x H n ∧ Q (.int (n : Nat)) H
section
variable {X : Cx} {K : PySem.W.Frag}
theorem cK_list (e : X.K = K) : CallR X (.type "list") (rListOf K) := by subst e; exact call_list_of
theorem cK_tuple (e : X.K = K) : CallR X (.type "tuple") (rTupleOf K) := by subst e; exact call_tuple_of
theorem cK_len (e : X.K = K) : CallR X (.builtin "len") (rLenK K) := by subst e; exact call_len
theorem cK_isi (e : X.K = K) : CallR X (.builtin "isinstance") (rIsi K) := by subst e; exact call_isi
theorem cK_sortedS (e : X.K = K) : CallR X (.builtin "sorted") (rSortedS K) := by subst e; exact cr_sortedS
theorem xK_list (e : X.K = K) : IxR X (rIxL K) := by subst e; exact ix_list
theorem xK_tup (e : X.K = K) : IxR X (rIxT K) := by subst e; exact ix_tup
theorem oK_catA (e : X.K = K) : OpR X (binaryOp .Add) (rCatA K) := by subst e; exact op_catA
theorem iK_list {tg l : Expr} {tl : TE} (e : X.K = K) (hl : PE X l tl) : PI X tg l (iList K tl) := by subst e; exact pi_list hl
theorem iK_tup {tg l : Expr} {tl : TE} (e : X.K = K) (hl : PE X l tl) : PI X tg l (iTup K tl) := by subst e; exact pi_tup hl
end
end Sl
namespace Sl
open PySem PySem.Spec PyProof.Rows L2
/-! ### comparisons of data, membership, sorted: over what reads as data -/
section
variable {X : Cx} {K : PySem.W.Frag}
/-- no dict within, not too deep -/
def pln (d : PyData) : Prop := d.plain = true ∧ d.depth ≤ 32
def rEqP (K : PySem.W.Frag) : R2 := fun x y H Q => ∃ d e, Dp K H x d ∧ Dp K H y e ∧ pln d ∧ pln e ∧ Q (.bl (PyData.eqv d e)) H
theorem oP_eq (e : X.K = K) (hu : X.A.units + 64 < cLine) : OpR X (compareOp .Eq) (rEqP K) := by
  subst e
  intro pins s σ H x y v u Q I rx ry h
  obtain ⟨d, e, hd, he, ⟨h1, h3⟩, ⟨h2, _⟩, q⟩ := h
  obtain ⟨as, r1⟩ := Dp.reads I d x v hd rx
  obtain ⟨bs, r2⟩ := Dp.reads I e y u he ry
  exact PySem.SeqAt.eq_plain r1 r2 h1 h2 (by have := Nat.min_le_left d.depth e.depth; omega) ⟨.bl _, H, I, rfl, q⟩
def rInP (K : PySem.W.Frag) (neg : Bool) : R2 := fun x y H Q => ∃ d ds, Dp K H x d ∧ (Dp K H y (.list ds) ∨ Dp K H y (.tuple ds)) ∧ pln d ∧ PyData.plainAll ds = true ∧ Q (.bl (if neg then !(ds.any fun z => PyData.eqv z d) else ds.any fun z => PyData.eqv z d)) H
theorem oP_in (e : X.K = K) (hu : X.A.units + 64 < cLine) : OpR X (compareOp .In) (rInP K false) := by
  subst e
  intro pins s σ H x y v u Q I rx ry h
  obtain ⟨d, ds, hd, he, ⟨h1, h3⟩, h2, q⟩ := h
  obtain ⟨as, r1⟩ := Dp.reads I d x v hd rx
  rcases he with he | he
  · obtain ⟨bs, r2⟩ := Dp.reads I _ y u he ry
    exact PySem.SeqAt.in_list_data r2 r1 h2 h1 (by have := Nat.min_le_right (PyData.depthAll ds) d.depth; omega) ⟨.bl _, H, I, rfl, q⟩
  · obtain ⟨bs, r2⟩ := Dp.reads I _ y u he ry
    exact PySem.SeqAt.in_tuple_data r2 r1 h2 h1 (by have := Nat.min_le_right (PyData.depthAll ds) d.depth; omega) ⟨.bl _, H, I, rfl, q⟩
theorem oP_nin (e : X.K = K) (hu : X.A.units + 64 < cLine) : OpR X (compareOp .NotIn) (rInP K true) := by
  subst e
  intro pins s σ H x y v u Q I rx ry h
  obtain ⟨d, ds, hd, he, ⟨h1, h3⟩, h2, q⟩ := h
  obtain ⟨as, r1⟩ := Dp.reads I d x v hd rx
  rcases he with he | he
  · obtain ⟨bs, r2⟩ := Dp.reads I _ y u he ry
    exact PySem.SeqAt.notIn_list_data r2 r1 h2 h1 (by have := Nat.min_le_right (PyData.depthAll ds) d.depth; omega) ⟨.bl _, H, I, rfl, q⟩
  · obtain ⟨bs, r2⟩ := Dp.reads I _ y u he ry
    exact PySem.SeqAt.notIn_tuple_data r2 r1 h2 h1 (by have := Nat.min_le_right (PyData.depthAll ds) d.depth; omega) ⟨.bl _, H, I, rfl, q⟩
theorem each_of {H : Hp} : ∀ {xs : List V} {us : List Value} {ds : List PyData}, Vals xs us → DpAll K H xs ds → PySem.W.EachIs (fun u d => ∃ v, RelV v u ∧ Dp K H v d) us ds
  | _, _, _, .nil, .nil => .nil
  | _, _, _, .cons r rs, .cons h hs => .cons ⟨_, r, h⟩ (each_of rs hs)
theorem of_each {H : Hp} : ∀ {us : List Value} {ds : List PyData}, PySem.W.EachIs (fun u d => ∃ v, RelV v u ∧ Dp K H v d) us ds → ∃ xs, Vals xs us ∧ DpAll K H xs ds
  | _, _, .nil => ⟨[], .nil, .nil⟩
  | _, _, .cons ⟨v, r, h⟩ t => by
    obtain ⟨xs, rs, hs⟩ := of_each t
    exact ⟨v :: xs, .cons r rs, .cons h hs⟩
theorem each_mono {α β : Type} {R S : α → β → Prop} (k : ∀ a b, R a b → S a b) : ∀ {xs : List α} {ys : List β}, PySem.W.EachIs R xs ys → PySem.W.EachIs S xs ys
  | _, _, .nil => .nil
  | _, _, .cons h t => .cons (k _ _ h) (each_mono k t)
theorem dpAll_len {H : Hp} : ∀ {xs : List V} {ds : List PyData}, DpAll K H xs ds → xs.length = ds.length
  | _, _, .nil => rfl
  | _, _, .cons _ t => congrArg Nat.succ (dpAll_len t)
/-- xs.extend(t), t a tuple -/
def rExtendT (K : PySem.W.Frag) : V → List V → Hp → VK → Prop := fun x vs H Q => ∃ l b xs zs, x = .ref l ∧ vs = [.ref b] ∧ H l = some (.lst xs) ∧ SqT K H b zs ∧ xs.length + zs.length ≤ sizeLine ∧ Q .non (upd H l (.lst (xs ++ zs)))
end
end Sl
namespace Sl
open PySem PySem.Spec PyProof.Rows L2
theorem ext_tup (l b : Addr) (zs ws : Array Value) (n m : Nat) (dd : Option Addr) (sl : Array (Option Value)) (hs0 : ¬(!zs.isEmpty && Builtin.List.listTooLong (zs.size + ws.size)) = true) (hs1 : zs.size ≤ sizeLine) (hs2 : zs.size + ws.size ≤ sizeLine + 1) :
    Meets (Builtin.«list.extend» ⟨[.ref l, .ref b], []⟩) (fun _ R s => s.heap.get? l = some { cls := .type "list", dict := none, data := .seq zs n, slots := #[] } ∧ s.heap.get? b = some { cls := .type "tuple", dict := dd, data := .seq ws m, slots := sl } ∧
      R (.ok (.ret Value.none)) { s with heap := s.heap.update l (Obj.mapSeq fun x => x ++ ws) }) :=
  .of_wp fun prog w A R s h => by
    obtain ⟨hp, g, d, tk, os⟩ := s
    obtain ⟨hl, hb, h⟩ := h
    have f1 := AutoSeq1.idx_int; have f2 := AutoSeq1.sub_tuple_tuple; have f3 := AutoSeq1.sub_list_list
    have f4 := AutoSeq1.sub_tuple_list; have f5 := AutoSeq1.sub_list_tuple
    have hz' : (zs ++ ws).size ≤ sizeLine + 1 := by rw [Array.size_append]; exact hs2
    wp_walk using (wpAny_updateSeq hl rfl (hz := hs1) (_hz' := hz')), AutoSeq1.wpAny_loadPart' hl, AutoSeq1.wpAny_loadPart' hb
    exact ⟨_, rfl, h⟩
section
variable {X : Cx} {K : PySem.W.Frag}
theorem mt_extendT (e : X.K = K) : MtM X "list.extend" (rExtendT K) := by
  subst e
  intro pins s σ H x vs v us Q I rx rv h
  obtain ⟨l, b, xs, zs, rfl, rfl, hH, hB, hz, q⟩ := h
  cases rx
  obtain ⟨u, rfl, ru⟩ := rv.one
  cases ru
  obtain ⟨z, its, n, r, hl, e⟩ := I.lstM hH
  obtain ⟨its2, r2, ⟨o2, e2, c2, n2, d2⟩, hz2⟩ := I.tuple hB
  obtain ⟨oc, od, dt, sl⟩ := o2
  simp only at c2 d2
  subst c2 d2
  have l1 := r.length
  have l2 := r2.length
  have hsz : its.toArray.size + its2.toArray.size ≤ sizeLine := by rw [List.size_toArray, List.size_toArray]; omega
  have hlong : ¬ (!its.toArray.isEmpty && Builtin.List.listTooLong (its.toArray.size + its2.toArray.size)) = true := by
    rw [notLongL hsz, Bool.and_false]
    exact Bool.false_ne_true
  refine call_meets F.slot_list_extend ⟨_, e, rfl⟩ F.entry_list_extend (F.args_list_extend_2 _ _) (ext_tup l b its.toArray its2.toArray n n2 od sl hlong (by rw [List.size_toArray]; omega) (by omega)) ⟨e, e2, ?_⟩
  refine ⟨.non, _, I.lset (its' := its ++ its2) hH e (by simp) (r.append r2) ?_, rfl, q⟩
  rw [List.length_append]
  omega
end
end Sl
namespace Sl
open PySem PySem.Spec PyProof.Rows L2
/-- a, b = .. in a comprehension's block -/
theorem gK_tup {X : Cx} {K : PySem.W.Frag} (n : Nat) {es : List Expr} {k : Nat} {pos : Pos} {t : TGs} (e : X.K = K) (hc : X.calm = true) (h : PGs X es t)
    (hn : (assignEach es X.env).length = n := by rfl) (hst : (assignEach es X.env).findIdx? (·.1) = none := by rfl) : PG X (.Tuple es k pos) (gTup K n t) := e ▸ pg_tup hc h hn hst
end Sl
namespace Sl
open PySem PySem.Spec PyProof.Rows L2
/-! Own classes: their methods behind len, in, operators, subscripts. E tells, by the caller's slots, what is wanted of an error -/
section
variable {X : Cx} {CX : CXT} {k : Nat} {f C : Addr} {fd : FuncData} {ps : List Str} {sp : Sp} {E : L2.St → XK} {dvs : List V} {ds : List Value}
/-! o - y, y a text or an int; o + p of one class -/
/-- o.m(e, ..), what is raised wished for at the caller's slots -/
def tMethO (C : Addr) (m : Str) (sp : Sp) (dvs : List V) (E : L2.St → XK) (ta : TE) (t : TA) : TE := fun σ H Q => ta σ H fun x H1 => ∃ a dx fs, x = .ref a ∧ H1 a = some (.ins C dx fs) ∧ fs.lookup m = none ∧ t σ H1 fun vs H2 => sp ((x :: vs) ++ dvs) H2 Q (E σ)
end
/-! a class held by a local name, made -/
/-! iteration over an object whose __iter__ gives an iterator over a tuple -/
end Sl
namespace Sl
open PySem PySem.Spec PyProof.Rows L2
/-! list(o), o an object whose __iter__ gives an iterator over a tuple and whose __len__ gives a number -/
end Sl
namespace Sl
open PySem PySem.Spec PyProof.Rows L2
/-! ### C(), no class of it has an __init__ of its own -/
structure MkPl (K : PySem.W.Frag) (C : Addr) : Prop where
  makes : PySem.W.makesIn K C = true
  init : PySem.W.findIn K (.ref C) "__init__" = some (some (.builtin "object.__init__"))
  kp : PySem.W.keepIn K (.ref C) = true
def tMakeP (C : Addr) : TE := fun _ H Q => ∀ x dx, H x = none → H dx = none → dx ≠ x → Q (.ref x) (upd (upd H dx (.own x)) x (.ins C dx []))
section
variable {X : Cx} {C : Addr} {x : Str} {p pos : Pos}
theorem run_makeP {pins : List (Addr × Obj)} {σ : L2.St} {H : Hp} {s : Shared} {Q : VK} (M : MkPl X.K C) (I : Inv X pins σ H s) (h : tMakeP C σ H Q) : wpAny (model X.prog X.w) X.A (call (.ref C) []) (EP X pins σ Q) X.xe s := by
  have I2 := Inv.made (C := C) I
  have Y := PySem.W.makes_of (M := model X.prog X.w) I.kIn M.makes
  have hq := h (s.heap.objs.size + 1) s.heap.objs.size (I.hok.fresh (Nat.le_succ _)) (I.hok.fresh (Nat.le_refl _)) (Nat.ne_of_lt (Nat.lt_succ_self _))
  refine wpAny_call (PySem.W.make_core (R := fun r s' => match r with | .ok (.ret v) => EP X pins σ Q v s' | .ok _ => False | .error e => X.xe e s') Y (PySem.W.looks_findIn I.kIn M.init) (fun self => PySem.W.Looks.of_pure (PySem.W.oi_bind self)) (.inr ⟨rfl, rfl⟩) ?_)
  have o1 : ((s.heap.push PySem.W.emptyDict).push (PySem.W.instObj C s.heap.objs.size)).get? (s.heap.objs.size + 1) = some (PySem.W.instObj C s.heap.objs.size) := by
    have z := Heap.get?_push_size (s.heap.push PySem.W.emptyDict) (o := PySem.W.instObj C s.heap.objs.size) rfl
    rwa [Heap.size_push] at z
  have t1 : PySem.W.Looks (model X.prog X.w) ((s.heap.push PySem.W.emptyDict).push (PySem.W.instObj C s.heap.objs.size)) (typeOf (.ref (s.heap.objs.size + 1))) (.ref C) := (PySem.W.Looks.ld o1).andThen .now
  have t2 : PySem.W.Looks (model X.prog X.w) ((s.heap.push PySem.W.emptyDict).push (PySem.W.instObj C s.heap.objs.size)) (isInstance (.ref (s.heap.objs.size + 1)) (.type "object")) true := t1.andThen (Y.top.keeps fun b o e => Heap.get?_push_of_some _ (Heap.get?_push_of_some _ e))
  refine codeAny_call_builtin PySem.W.oi_plain PySem.W.entry_oi (PySem.W.check_slot PySem.W.oi_kind PySem.W.oi_split t2 (PySem.W.oi_args _) ?_)
  rw [PySem.W.oi_run]
  exact wpAny_pure ⟨rfl, _, _, I2, rvRef _, hq⟩
theorem pe_makeP (M : MkPl X.K C) (hg : Gl X x) (hm : X.mg x = some (.ref C)) (hdb : (x == ("__debug__" : Str)) = false := by decide) : PE X (.Call (.Name x p) [] [] pos) (tMakeP C) := by
  refine ⟨fun pins s σ H Q I h => ?_⟩
  refine wpAny_Call_Name_kw (ld_glob I hg hm ?_ hdb)
  exact PySem.W.callWith_K0 I.kIn M.kp (run_makeP M I h)
end
/-! ### C().m(e, ..): nothing is asked of the receiver -/
end Sl
namespace Sl
open PySem PySem.Spec PyProof.Rows L2
end Sl
namespace Sl
open PySem PySem.Spec PyProof.Rows L2 NdefX
/-! ### a and b where a is looked at with the activation known -/
/-! ### super().m(..) -/
/-! ### a method whose body is: return super().m(e, ..) and ..-/
/-- a def of the text that closes over __class__ -/
structure FunC (K : PySem.W.Frag) (x qual : Str) (st : Stmt) (cc cda f : Addr) (fd : FuncData) : Prop where
  ex : ∃ (oc : Value) (od : Option Addr) (kV doc pm : Value) (an : Option Addr) (ct : Value) (osl : Array (Option Value)),
    fd = PySem.W.ksFn x qual (defArgs st) (defBody st) (defScope st) .none kV doc pm an (.ref cda) ct cc ∧ K.lookup f = some ⟨oc, od, .func fd, osl⟩ ∧ PySem.W.codeIn K (.ref cda) qual = true
  kp : PySem.W.keepIn K (.ref f) = true
theorem FunC.binds {K : PySem.W.Frag} {x qual : Str} {st : Stmt} {cc cda f : Addr} {fd : FuncData} {ps : List Str} (F : FunC K x qual st cc cda f fd)
    (h : ∀ (kV doc pm : Value) (an : Option Addr) (cdv ct : Value) (us : List Value), us.length = ps.length → bindArgs (PySem.W.ksFn x qual (defArgs st) (defBody st) (defScope st) .none kV doc pm an cdv ct cc) ⟨us, []⟩ = pure (ps.zip us)) : Binds K fd ps [] := by
  obtain ⟨oc, od, kV, doc, pm, an, ct, osl, rfl, lk, hcd⟩ := F.ex
  exact .all (h kV doc pm an (.ref cda) ct)
end Sl
namespace Sl
open PySem PySem.Spec PyProof.Rows L2
/-! ### min(xs, default=d) -/
/-! ### max(xs, default=d) -/
end Sl
namespace Sl
open PySem PySem.Spec PyProof.Rows L2
/-! ### own exceptions without an __init__ of their own -/
structure Err0 (K : PySem.W.Frag) (mg : Str → Option Value) (x : Str) (C : Addr) : Prop where
  gC : mg x = some (.ref C)
  ex : PySem.W.excIn K C [.type "ValueError", .type "Exception", .type "BaseException", .type "object"] "ValueError.__new__" = true
  kp : PySem.W.keepIn K (.ref C) = true
  ty : PySem.W.typeIn K (.ref C) = some (.type "type")
  ec : ExcC K C
section
variable {X : Cx} {x m : Str} {j : Nat} {C : Addr} {p p2 pos : Pos}
/-- C('m') -/
theorem pmk_err0 (T : Err0 X.K X.mg x C) (hg : Gl X x) (hdb : (x == ("__debug__" : Str)) = false := by decide) : PMk X (.Call (.Name x p) [.Constant (.str m) j p2] [] pos) (fun _ H Q => Q (.ref C) none H) :=
  pmk_own PySem.F.excBase_ValueError T.ex T.gC T.kp (raises_own T.ec.hs T.ty) hg hdb
end
end Sl
namespace Mi
open PySem PySem.Spec PyProof.Rows L2
section
variable {X : Cx} {K : PySem.W.Frag}
/-- list + list, read alone -/
def rCatS (K : PySem.W.Frag) : R2 := fun x y H Q => ∃ l b xs zs, x = .ref l ∧ y = .ref b ∧ SqL K H l xs ∧ SqL K H b zs ∧ xs.length + zs.length ≤ sizeLine ∧ ∀ p, H p = none → Q (.ref p) (upd H p (.lst (xs ++ zs)))
theorem op_catS (e : X.K = K) : OpR X (binaryOp .Add) (rCatS K) := by
  subst e
  intro pins s σ H x y v u Q I rx ry h
  obtain ⟨l, b, xs, zs, rfl, rfl, hH, hB, hz, q⟩ := h
  cases rx
  cases ry
  obtain ⟨its, r, ⟨⟨cls, dd, data, sl⟩, n, e, hc, hd0, hd⟩, hl⟩ := I.list hH
  obtain ⟨its2, r2, ⟨⟨cls2, dd2, data2, sl2⟩, n2, e2, hc2, hd02, hd2⟩, hl2⟩ := I.list hB
  simp only at hc hd hc2 hd2 hd0 hd02
  subst hc hd hc2 hd2 hd0 hd02
  have ea : its.toArray ++ its2.toArray = (its ++ its2).toArray := by simp
  have hsz : its.length + its2.length ≤ sizeLine := by rw [← r.length, ← r2.length]; exact hz
  refine concat_meets ⟨_, e, rfl⟩ ⟨_, e2, rfl⟩ noFill_list_add seq_list_add PySem.F.slot_list_add PySem.F.entry_list_add (PySem.F.args_list_add_2 _ _) (list_addW l b its.toArray its2.toArray n n2 none none sl sl2 (by simpa using hsz)) ⟨e, e2, ?_⟩
  rw [ea]
  exact ⟨.ref _, _, I.lnew (t' := s.toks) (r.append r2) (by rw [List.length_append]; omega), rfl, q _ I.fresh⟩
theorem call_lenDR : CallR X (.builtin "len") (fun xs H Q => ∃ a kvs, xs = [V.ref a] ∧ Rd H a (.dK kvs) ∧ Q (.int kvs.length) H) := by
  intro pins s σ H xs us Q I r h
  obtain ⟨a, kvs, rfl, ha, q⟩ := h
  obtain ⟨u, rfl, ru⟩ := vals1 r
  cases ru
  exact d_len I ha fun t s' I' => ⟨.int kvs.length, H, I', ⟨t, rfl⟩, q⟩
theorem sK_tupA (e : X.K = K) : SlR X (rSlA K) := by subst e; exact sl_tupA
theorem sK_list (e : X.K = K) : SlR X (rSlL K) := by subst e; exact sl_list
theorem cK_any (e : X.K = K) (hc : X.calm = true) : CallR X (.builtin "any") (rAny K) := by subst e; exact cr_any hc
end
end Mi
namespace Mi
open PySem PySem.Spec PyProof.Rows L2
open Sl (isTup sz szl)
/-! ### plain results -/
inductive EF | no | int (i : Int) | str (s : Str)
  deriving DecidableEq
/-- an exception of the program's own: the number of its class, its field -/
structure Er where
  c : Nat
  f : EF
  deriving DecidableEq
inductive Res (α : Type) | ok (a : α) | err (e : Er) | bad
  deriving DecidableEq
def Res.bind {α β : Type} : Res α → (α → Res β) → Res β
  | .ok a, k => k a
  | .err e, _ => .err e
  | .bad, _ => .bad
def Res.noerr {α : Type} : Res α → Res α
  | .err _ => .bad
  | r => r
def lt {α β : Type} (x : α) (k : α → β) : β := k x
@[simp] theorem lt_def {α β : Type} (x : α) (k : α → β) : lt x k = k x := rfl
section
variable {α β γ : Type}
@[simp] theorem bind_ok (a : α) (k : α → Res β) : (Res.ok a).bind k = k a := rfl
@[simp] theorem bind_err (e : Er) (k : α → Res β) : (Res.err e).bind k = .err e := rfl
@[simp] theorem bind_bad (k : α → Res β) : (Res.bad).bind k = .bad := rfl
theorem bind_assoc (m : Res α) (k : α → Res β) (l : β → Res γ) : (m.bind k).bind l = m.bind fun a => (k a).bind l := by cases m <;> rfl
@[simp] theorem noerr_ok (a : α) : (Res.ok a).noerr = .ok a := rfl
@[simp] theorem noerr_err (e : Er) : (Res.err e : Res α).noerr = .bad := rfl
@[simp] theorem noerr_bad : (Res.bad : Res α).noerr = .bad := rfl
end
/-- how a turn of a loop ends -/
inductive Fl (σ ρ : Type) | nx (s : σ) | rt (r : ρ) | br (s : σ)
def pfold {σ α : Type} (f : σ → α → Res σ) : σ → List α → Res σ
  | s, [] => .ok s
  | s, x :: xs => (f s x).bind fun s' => pfold f s' xs
def pnext {σ ρ : Type} (g : σ → Res (Fl σ ρ)) : Fl σ ρ → Res (Fl σ ρ)
  | .nx s => g s
  | .rt r => .ok (.rt r)
  | .br s => .ok (.nx s)
def pfor {σ ρ α : Type} (f : σ → α → Res (Fl σ ρ)) : σ → List α → Res (Fl σ ρ)
  | s, [] => .ok (.nx s)
  | s, x :: xs => (f s x).bind (pnext fun s' => pfor f s' xs)
def pafter {σ ρ τ : Type} (k : σ → Res τ) (j : ρ → Res τ) : Fl σ ρ → Res τ
  | .nx s => k s
  | .br s => k s
  | .rt r => j r
/-- behind a loop: what follows, or the return -/
def Res.thn {σ ρ τ : Type} (m : Res (Fl σ ρ)) (k : σ → Res τ) (j : ρ → Res τ) : Res τ := m.bind (pafter k j)
@[simp] theorem thn_nx {σ ρ τ : Type} (s : σ) (k : σ → Res τ) (j : ρ → Res τ) : (Res.ok (Fl.nx s)).thn k j = k s := rfl
@[simp] theorem thn_br {σ ρ τ : Type} (s : σ) (k : σ → Res τ) (j : ρ → Res τ) : (Res.ok (Fl.br s)).thn k j = k s := rfl
@[simp] theorem thn_rt {σ ρ τ : Type} (r : ρ) (k : σ → Res τ) (j : ρ → Res τ) : (Res.ok (Fl.rt r)).thn k j = j r := rfl
@[simp] theorem thn_err {σ ρ τ : Type} (e : Er) (k : σ → Res τ) (j : ρ → Res τ) : (Res.err e).thn k j = .err e := rfl
@[simp] theorem thn_bad {σ ρ τ : Type} (k : σ → Res τ) (j : ρ → Res τ) : (Res.bad).thn k j = .bad := rfl
/-- a comprehension whose parts may fail: none where the test says no -/
def pml {α β : Type} (f : α → Res (Option β)) : List α → Res (List β)
  | [] => .ok []
  | x :: xs => (f x).bind fun r => (pml f xs).bind fun q => .ok (r.toList ++ q)
/-- .. or draw -/
def plc {σ α β : Type} (f : σ → α → Res (Option β × σ)) : σ → List α → Res (List β × σ)
  | s, [] => .ok ([], s)
  | s, x :: xs => (f s x).bind fun r => (plc f r.2 xs).bind fun q => .ok (r.1.toList ++ q.1, q.2)
/-! ### what is frozen; what may be said of a value -/
abbrev Fz := Addr → Prop
/-- what is read, locked or not -/
def core : HO → HO
  | .frz z (.ins C dx fs) => .frz z (.ins C dx fs)
  | .frz _ u => u
  | o => o
theorem isTup_iff {o : HO} : isTup o = true ↔ ∃ xs, core o = .tup xs := by
  cases o with
  | frz z u => cases u <;> simp [isTup, core]
  | _ => simp [isTup, core]
theorem core_tup {o o' : HO} (h : core o' = core o) (t : isTup o = true) : isTup o' = true := by
  rw [isTup_iff] at t ⊢; rw [h]; exact t
structure Le (S : Fz) (H : Hp) (S' : Fz) (H' : Hp) : Prop where
  fz : ∀ a, S a → S' a
  hp : ∀ a o, H a = some o → (S a ∨ isTup o = true) → ∃ o', H' a = some o' ∧ core o' = core o
  tp : ∀ a xs, H a = some (.tup xs) → H' a = some (.tup xs)
theorem Le.refl {S : Fz} {H : Hp} : Le S H S H := ⟨fun _ h => h, fun _ o h _ => ⟨o, h, rfl⟩, fun _ _ h => h⟩
theorem Le.trans {S S1 S2 : Fz} {H H1 H2 : Hp} (x : Le S H S1 H1) (y : Le S1 H1 S2 H2) : Le S H S2 H2 :=
  ⟨fun a h => y.fz a (x.fz a h), fun a o h k => by
    obtain ⟨o1, h1, e1⟩ := x.hp a o h k
    obtain ⟨o2, h2, e2⟩ := y.hp a o1 h1 (k.imp (x.fz a) (core_tup e1))
    exact ⟨o2, h2, e2.trans e1⟩, fun a xs h => y.tp a xs (x.tp a xs h)⟩
theorem Le.ex {S S' : Fz} {H H' : Hp} (f : ∀ a, S a → S' a) (h : ∀ a o, H a = some o → (S a ∨ isTup o = true) → H' a = some o) : Le S H S' H' := ⟨f, fun a o e k => ⟨o, h a o e k, rfl⟩, fun a xs e => h a _ e (.inr rfl)⟩
theorem core_of {o u : HO} (hu : ∀ z w, u ≠ .frz z w) (h : core o = u) : o = u ∨ ∃ z, o = .frz z u := by
  cases o with
  | frz z w =>
    cases w with
    | ins C dx fs => exact absurd h.symm (hu _ _)
    | _ => exact .inr ⟨z, congrArg (HO.frz z) h⟩
  | _ => exact .inl h
theorem Le.rd {S S' : Fz} {H H' : Hp} {a : Addr} {u : HO} (l : Le S H S' H') (hu : ∀ z w, u ≠ .frz z w) (hi : ∀ C dx fs, u ≠ .ins C dx fs) (h : Rd H a u) (k : S a ∨ isTup u = true) : Rd H' a u := by
  have cu : core u = u := by
    cases u with
    | frz z w => exact absurd rfl (hu z w)
    | _ => rfl
  have cz : ∀ z, core (.frz z u) = u := fun z => by
    cases u with
    | frz z w => exact absurd rfl (hu z w)
    | ins C dx fs => exact absurd rfl (hi C dx fs)
    | _ => rfl
  have fin : ∀ o, H a = some o → core o = u → isTup u = true ∨ S a → Rd H' a u := fun o h1 h2 h3 => by
    have t : S a ∨ isTup o = true := h3.elim (fun t => .inr (by
      rw [isTup_iff] at t ⊢
      obtain ⟨xs, e⟩ := t
      exact ⟨xs, h2.trans (cu.symm.trans e)⟩)) .inl
    obtain ⟨o', e1, e2⟩ := l.hp a o h1 t
    rw [h2] at e2
    rcases core_of hu e2 with e | ⟨z, e⟩
    · exact .inl (e ▸ e1)
    · exact .inr ⟨z, e ▸ e1⟩
  rcases h with h | ⟨z, h⟩
  · exact fin u h cu k.symm
  · exact fin _ h (cz z) k.symm
theorem Le.ins {S S' : Fz} {H H' : Hp} {a C dx : Addr} {fs : List (Str × V)} (l : Le S H S' H') (h : H a = some (.ins C dx fs)) (k : S a) : H' a = some (.ins C dx fs) := by
  obtain ⟨o', e1, e2⟩ := l.hp a _ h (.inl k)
  cases o' with
  | frz z w =>
    cases w <;> cases e2
  | _ => rw [e1]; exact congrArg some e2
structure Pv where
  p : Fz → Hp → V → Prop
  up : ∀ {S H S' H' v}, Le S H S' H' → p S H v → p S' H' v
def PsOk (S : Fz) (H : Hp) : List V → List Pv → Prop
  | [], [] => True
  | v :: vs, P :: ps => P.p S H v ∧ PsOk S H vs ps
  | _, _ => False
section
variable {S S' : Fz} {H H' : Hp}
theorem PsOk.up (l : Le S H S' H') : ∀ {vs : List V} {ps : List Pv}, PsOk S H vs ps → PsOk S' H' vs ps
  | [], [], _ => trivial
  | [], _ :: _, h => False.elim h
  | _ :: _, [], h => False.elim h
  | _ :: _, P :: _, h => ⟨P.up l h.1, PsOk.up l h.2⟩
theorem PsOk.length : ∀ {vs : List V} {ps : List Pv}, PsOk S H vs ps → vs.length = ps.length
  | [], [], _ => rfl
  | [], _ :: _, h => False.elim h
  | _ :: _, [], h => False.elim h
  | _ :: _, _ :: _, h => congrArg Nat.succ (PsOk.length h.2)
theorem PsOk.at : ∀ {vs : List V} {ps : List Pv} {i : Nat} {v : V}, PsOk S H vs ps → vs[i]? = some v → ∃ P, ps[i]? = some P ∧ P.p S H v
  | [], _, _, _, _, e => by simp at e
  | _ :: _, [], _, _, h, _ => False.elim h
  | _ :: _, P :: _, 0, _, h, e => by cases e; exact ⟨P, rfl, h.1⟩
  | _ :: _, _ :: _, i + 1, _, h, e => PsOk.at (i := i) h.2 e
theorem PsOk.at' : ∀ {vs : List V} {ps : List Pv} {i : Nat} {P : Pv}, PsOk S H vs ps → ps[i]? = some P → ∃ v, vs[i]? = some v ∧ P.p S H v
  | _, [], _, _, _, e => by simp at e
  | [], _ :: _, _, _, h, _ => False.elim h
  | v :: _, P :: _, 0, _, h, e => by cases e; exact ⟨v, rfl, h.1⟩
  | _ :: _, _ :: _, i + 1, _, h, e => PsOk.at' (i := i) h.2 e
theorem PsOk.app : ∀ {vs ws : List V} {ps qs : List Pv}, PsOk S H vs ps → PsOk S H ws qs → PsOk S H (vs ++ ws) (ps ++ qs)
  | [], _, [], _, _, k => k
  | [], _, _ :: _, _, h, _ => False.elim h
  | _ :: _, _, [], _, h, _ => False.elim h
  | _ :: _, _, _ :: _, _, h, k => ⟨h.1, PsOk.app h.2 k⟩
theorem PsOk.one {v : V} {P : Pv} (h : P.p S H v) : PsOk S H [v] [P] := ⟨h, trivial⟩
theorem PsOk.snoc {vs : List V} {ps : List Pv} {v : V} {P : Pv} (h : PsOk S H vs ps) (k : P.p S H v) : PsOk S H (vs ++ [v]) (ps ++ [P]) := h.app (.one k)
theorem PsOk.set : ∀ {vs : List V} {ps : List Pv} {v : V} {P : Pv} (i : Nat), PsOk S H vs ps → P.p S H v → PsOk S H (vs.set i v) (ps.set i P)
  | [], [], _, _, _, _, _ => trivial
  | [], _ :: _, _, _, _, h, _ => False.elim h
  | _ :: _, [], _, _, _, h, _ => False.elim h
  | _ :: _, _ :: _, _, _, 0, h, k => ⟨k, h.2⟩
  | _ :: _, _ :: _, _, _, i + 1, h, k => ⟨h.1, PsOk.set i h.2 k⟩
theorem PsOk.take : ∀ {vs : List V} {ps : List Pv} (i : Nat), PsOk S H vs ps → PsOk S H (vs.take i) (ps.take i)
  | [], [], i, _ => by simp; trivial
  | [], _ :: _, _, h => False.elim h
  | _ :: _, [], _, h => False.elim h
  | _ :: _, _ :: _, 0, h => trivial
  | _ :: _, _ :: _, i + 1, h => ⟨h.1, PsOk.take i h.2⟩
theorem PsOk.drop : ∀ {vs : List V} {ps : List Pv} (i : Nat), PsOk S H vs ps → PsOk S H (vs.drop i) (ps.drop i)
  | [], [], i, _ => by simp; trivial
  | [], _ :: _, _, h => False.elim h
  | _ :: _, [], _, h => False.elim h
  | _ :: _, _ :: _, 0, h => h
  | _ :: _, _ :: _, i + 1, h => PsOk.drop i h.2
theorem PsOk.reverse : ∀ {vs : List V} {ps : List Pv}, PsOk S H vs ps → PsOk S H vs.reverse ps.reverse
  | [], [], _ => trivial
  | [], _ :: _, h => False.elim h
  | _ :: _, [], h => False.elim h
  | v :: vs, P :: ps, h => by rw [List.reverse_cons, List.reverse_cons]; exact (PsOk.reverse h.2).snoc h.1
end
/-- a mutable object, by its owner; pv: what it is once it is frozen -/
structure Ow where
  w : Fz → Hp → HO → Prop
  up : ∀ {S H S' H' o}, Le S H S' H' → w S H o → w S' H' o
  nt : ∀ {S H o}, w S H o → isTup o = false
  pv : Pv
  to : ∀ {S H a o}, S a → H a = some o → w S H o → pv.p S H (.ref a)
inductive Slt | any | val (P : Pv) | own (pin : Bool) (O : Ow)
abbrev Ctx := List Slt
structure Fr where
  S0 : Fz
  H0 : Hp
  I : Fz
  ad : Nat → Addr
structure FrOk (F : Fr) (S : Fz) (H : Hp) : Prop where
  kp : ∀ a o, F.H0 a = some o → ¬ F.I a → H a = some o
  fz : ∀ a, S a → F.S0 a ∨ F.H0 a = none ∨ F.I a
  le : ∀ a, F.S0 a → S a
  dm : ∀ a, F.H0 a ≠ none → H a ≠ none
  sd : ∀ a, S a → H a ≠ none
structure Rel (F : Fr) (Γ : Ctx) (S : Fz) (σ : L2.St) (H : Hp) : Prop where
  fr : FrOk F S H
  len : σ.length = Γ.length
  val : ∀ (i : Nat) (P : Pv), Γ[i]? = some (Slt.val P) → ∃ v, σ[i]? = some (some v) ∧ P.p S H v
  own : ∀ (i : Nat) (b : Bool) (O : Ow), Γ[i]? = some (Slt.own b O) → ∃ a o, σ[i]? = some (some (.ref a)) ∧ H a = some o ∧ O.w S H o ∧ ¬ S a ∧ (F.I a ∨ F.H0 a = none) ∧ (b = true → a = F.ad i)
  sep : ∀ (i j : Nat) (b b' : Bool) (O O' : Ow) (a : Addr), Γ[i]? = some (Slt.own b O) → Γ[j]? = some (Slt.own b' O') → σ[i]? = some (some (V.ref a)) → σ[j]? = some (some (V.ref a)) → i = j
/-- a is held by a slot of its own -/
def Held (Γ : Ctx) (σ : L2.St) (a : Addr) : Prop := ∃ (i : Nat) (b : Bool) (O : Ow), Γ[i]? = some (Slt.own b O) ∧ σ[i]? = some (some (V.ref a))
section
variable {F : Fr} {Γ : Ctx} {S S' : Fz} {σ : L2.St} {H H' : Hp} {p a : Addr} {o o' : HO} {i : Nat} {v : V} {P : Pv} {O O' : Ow} {b : Bool}
theorem FrOk.fresh (R : FrOk F S H) (h : H p = none) : F.H0 p = none := Classical.byContradiction fun z => R.dm p z h
theorem FrOk.nfz (R : FrOk F S H) (h : H p = none) : ¬ S p := fun z => R.sd p z h
/-- all stands but what is held -/
theorem Rel.move (R : Rel F Γ S σ H) (l : Le S H S' H') (k : ∀ a o, H a = some o → ¬ Held Γ σ a → H' a = some o) (f : ∀ a, S' a → S a ∨ H a = none) (d : ∀ a, S' a → H' a ≠ none) (d2 : ∀ a, H a ≠ none → H' a ≠ none)
    (w : ∀ (i : Nat) (b : Bool) (O : Ow) (a : Addr) (o : HO), Γ[i]? = some (Slt.own b O) → σ[i]? = some (some (V.ref a)) → H a = some o → O.w S H o → ∃ o', H' a = some o' ∧ O.w S' H' o') : Rel F Γ S' σ H' where
  fr := ⟨fun a o h n => k a o (R.fr.kp a o h n) (fun ⟨i, b, O, h1, h2⟩ => by
      obtain ⟨a', o', e1, e2, e3, e4, e5, _⟩ := R.own i b O h1
      rw [h2] at e1; cases e1
      rcases e5 with e5 | e5
      · exact n e5
      · rw [e5] at h; cases h),
    fun a h => (f a h).elim (R.fr.fz a) fun z => .inr (.inl (R.fr.fresh z)), fun a h => l.fz a (R.fr.le a h), fun a h => d2 a (R.fr.dm a h), d⟩
  len := R.len
  val := fun i P h => by
    obtain ⟨v, e, h⟩ := R.val i P h
    exact ⟨v, e, P.up l h⟩
  own := fun i b O h => by
    obtain ⟨a, o, e1, e2, e3, e4, e5, e6⟩ := R.own i b O h
    obtain ⟨o', h1, h2⟩ := w i b O a o h e1 e2 e3
    exact ⟨a, o', e1, h1, h2, fun z => (f a z).elim e4 (fun z => by rw [e2] at z; cases z), e5, e6⟩
  sep := R.sep
theorem le_new (h : H p = none) : Le S H S (upd H p o) := .ex (fun _ h => h) (fun a u e _ => by rw [upd_ne (ne_of_none e h)]; exact e)
theorem le_newF (h : H p = none) : Le S H (fun a => S a ∨ a = p) (upd H p o) := .ex (fun _ h => .inl h) (fun a u e _ => by rw [upd_ne (ne_of_none e h)]; exact e)
theorem upd_some (h : H a ≠ none) : upd H p o a ≠ none := by
  by_cases e : a = p
  · subst e; rw [upd_same]; exact fun z => nomatch z
  · rw [upd_ne e]; exact h
theorem Rel.new (R : Rel F Γ S σ H) (h : H p = none) : Rel F Γ S σ (upd H p o) :=
  R.move (le_new h) (fun a u e _ => by rw [upd_ne (ne_of_none e h)]; exact e) (fun a z => .inl z) (fun a z => upd_some (R.fr.sd a z)) (fun a z => upd_some z)
    fun i b O a u _ _ h1 h2 => ⟨u, by rw [upd_ne (ne_of_none h1 h)]; exact h1, O.up (le_new h) h2⟩
theorem Rel.newF (R : Rel F Γ S σ H) (h : H p = none) : Rel F Γ (fun a => S a ∨ a = p) σ (upd H p o) :=
  R.move (le_newF h) (fun a u e _ => by rw [upd_ne (ne_of_none e h)]; exact e) (fun a z => z.imp id (fun z => by rw [z]; exact h)) (fun a z => z.elim (fun z => upd_some (R.fr.sd a z)) (fun z => by subst z; rw [upd_same]; exact fun z => nomatch z)) (fun a z => upd_some z)
    fun i b O a u _ _ h1 h2 => ⟨u, by rw [upd_ne (ne_of_none h1 h)]; exact h1, O.up (le_newF h) h2⟩
theorem set_at {α : Type} {xs : List α} {i j : Nat} {x y : α} (h : (xs.set i x)[j]? = some y) : (j = i ∧ y = x) ∨ (j ≠ i ∧ xs[j]? = some y) := by
  by_cases e : i = j
  · subst e
    rw [List.getElem?_set] at h
    simp only [if_true] at h
    split at h
    · cases h; exact .inl ⟨rfl, rfl⟩
    · cases h
  · rw [List.getElem?_set_ne e] at h; exact .inr ⟨fun z => e z.symm, h⟩
theorem set_eq {α : Type} {xs : List α} {i : Nat} {x : α} (h : i < xs.length) : (xs.set i x)[i]? = some x := by simp [h]
theorem set_ne {α : Type} {xs : List α} {i j : Nat} {x : α} (h : j ≠ i) : (xs.set i x)[j]? = xs[j]? := List.getElem?_set_ne (Ne.symm h)
/-- a slot gets a value -/
theorem Rel.setv (R : Rel F Γ S σ H) (h : P.p S H v) (hi : i < Γ.length) : Rel F (Γ.set i (.val P)) S (σ.set i (some v)) H where
  fr := R.fr
  len := by rw [List.length_set, List.length_set]; exact R.len
  val := fun j P' e => by
    have q_ := set_at e; clear e; obtain ⟨rfl, e⟩ | ⟨n, e⟩ := q_
    · cases e; exact ⟨v, set_eq (by rw [R.len]; exact hi), h⟩
    · rw [set_ne n]; exact R.val j P' e
  own := fun j b O e => by
    have q_ := set_at e; clear e; obtain ⟨rfl, e⟩ | ⟨n, e⟩ := q_
    · cases e
    · rw [set_ne n]; exact R.own j b O e
  sep := fun j k b b' O O' a e1 e2 e3 e4 => by
    have q_ := set_at e1; clear e1; obtain ⟨rfl, e1⟩ | ⟨n1, e1⟩ := q_
    · cases e1
    have q_ := set_at e2; clear e2; obtain ⟨rfl, e2⟩ | ⟨n2, e2⟩ := q_
    · cases e2
    rw [set_ne n1] at e3; rw [set_ne n2] at e4
    exact R.sep j k b b' O O' a e1 e2 e3 e4
/-- a slot gets a new object of its own -/
theorem Rel.seto (R : Rel F Γ S σ H) (h1 : H a = some o) (h2 : O.w S H o) (h3 : ¬ S a) (h4 : F.I a ∨ F.H0 a = none) (h5 : ¬ Held Γ σ a) (hi : i < Γ.length) : Rel F (Γ.set i (.own false O)) S (σ.set i (some (.ref a))) H where
  fr := R.fr
  len := by rw [List.length_set, List.length_set]; exact R.len
  val := fun j P' e => by
    have q_ := set_at e; clear e; obtain ⟨rfl, e⟩ | ⟨n, e⟩ := q_
    · cases e
    · rw [set_ne n]; exact R.val j P' e
  own := fun j b O e => by
    have q_ := set_at e; clear e; obtain ⟨rfl, e⟩ | ⟨n, e⟩ := q_
    · cases e; exact ⟨a, o, set_eq (by rw [R.len]; exact hi), h1, h2, h3, h4, fun z => nomatch z⟩
    · rw [set_ne n]; exact R.own j b O e
  sep := fun j k b b' O O' c e1 e2 e3 e4 => by
    rcases set_at e1 with ⟨hj, e1'⟩ | ⟨n1, e1'⟩
    · rcases set_at e2 with ⟨hk, e2'⟩ | ⟨n2, e2'⟩
      · rw [hj, hk]
      · rw [hj, set_eq (by rw [R.len]; exact hi)] at e3; cases e3
        rw [set_ne n2] at e4
        exact absurd ⟨k, b', O', e2', e4⟩ h5
    · rcases set_at e2 with ⟨hk, e2'⟩ | ⟨n2, e2'⟩
      · rw [hk, set_eq (by rw [R.len]; exact hi)] at e4; cases e4
        rw [set_ne n1] at e3
        exact absurd ⟨j, b, O, e1', e3⟩ h5
      · rw [set_ne n1] at e3; rw [set_ne n2] at e4
        exact R.sep j k b b' O O' c e1' e2' e3 e4
/-- less is said of the slots -/
def Sub (Γ Γ' : Ctx) : Prop := Γ.length = Γ'.length ∧ ∀ (i : Nat) (x : Slt), Γ'[i]? = some x → x = Slt.any ∨ Γ[i]? = some x
theorem Rel.sub {Γ' : Ctx} (R : Rel F Γ S σ H) (s : Sub Γ Γ') : Rel F Γ' S σ H where
  fr := R.fr
  len := R.len.trans s.1
  val := fun i P h => R.val i P ((s.2 i _ h).resolve_left fun z => nomatch z)
  own := fun i b O h => R.own i b O ((s.2 i _ h).resolve_left fun z => nomatch z)
  sep := fun i j b b' O O' a h1 h2 => R.sep i j b b' O O' a ((s.2 i _ h1).resolve_left fun z => nomatch z) ((s.2 j _ h2).resolve_left fun z => nomatch z)
theorem Sub.refl : Sub Γ Γ := ⟨rfl, fun _ _ h => .inr h⟩
theorem Sub.nil : Sub [] [] := ⟨rfl, fun _ _ h => .inr h⟩
theorem Sub.any {x : Slt} {Γ Γ' : Ctx} (h : Sub Γ Γ') : Sub (x :: Γ) (Slt.any :: Γ') := ⟨by simp [h.1], fun i y e => by
  cases i with
  | zero => cases e; exact .inl rfl
  | succ i => exact h.2 i y e⟩
theorem Sub.same {x : Slt} {Γ Γ' : Ctx} (h : Sub Γ Γ') : Sub (x :: Γ) (x :: Γ') := ⟨by simp [h.1], fun i y e => by
  cases i with
  | zero => exact .inr e
  | succ i => exact h.2 i y e⟩
/-- a slot is forgotten -/
theorem Rel.wipe1 (R : Rel F Γ S σ H) (x : Option V) (hn : Γ[i]? = some .any ∨ Γ.length ≤ i ∨ True) : Rel F (Γ.set i .any) S (σ.set i x) H where
  fr := R.fr
  len := by rw [List.length_set, List.length_set]; exact R.len
  val := fun j P' e => by
    have q_ := set_at e; clear e; obtain ⟨rfl, e⟩ | ⟨n, e⟩ := q_
    · cases e
    · rw [set_ne n]; exact R.val j P' e
  own := fun j b O e => by
    have q_ := set_at e; clear e; obtain ⟨rfl, e⟩ | ⟨n, e⟩ := q_
    · cases e
    · rw [set_ne n]; exact R.own j b O e
  sep := fun j k b b' O O' a e1 e2 e3 e4 => by
    have q_ := set_at e1; clear e1; obtain ⟨rfl, e1⟩ | ⟨n1, e1⟩ := q_
    · cases e1
    have q_ := set_at e2; clear e2; obtain ⟨rfl, e2⟩ | ⟨n2, e2⟩ := q_
    · cases e2
    rw [set_ne n1] at e3; rw [set_ne n2] at e4
    exact R.sep j k b b' O O' a e1 e2 e3 e4
theorem le_mut (h1 : H a = some o) (h2 : ¬ S a) (h3 : isTup o = false) : Le S H S (upd H a o') := .ex (fun _ h => h) (fun c u e k => by
  by_cases z : c = a
  · subst z
    rw [h1] at e; cases e
    rcases k with k | k
    · exact absurd k h2
    · rw [h3] at k; cases k
  · rw [upd_ne z]; exact e)
/-- the owner changes what it holds -/
theorem Rel.mut (R : Rel F Γ S σ H) (hg : Γ[i]? = some (.own b O)) (hs : σ[i]? = some (some (.ref a))) (hw : ∀ o, H a = some o → O.w S H o → O'.w S (upd H a o') o') : Le S H S (upd H a o') ∧ Rel F (Γ.set i (.own b O')) S σ (upd H a o') := by
  obtain ⟨a', o, e1, e2, e3, e4, e5, e6⟩ := R.own i b O hg
  rw [hs] at e1; cases e1
  have l : Le S H S (upd H a o') := le_mut e2 e4 (O.nt e3)
  refine ⟨l, ⟨⟨fun c u h n => ?_, R.fr.fz, R.fr.le, fun c h => upd_some (R.fr.dm c h), fun c h => upd_some (R.fr.sd c h)⟩, by rw [List.length_set]; exact R.len, fun j P e => ?_, fun j b' O1 e => ?_, fun j k b1 b2 O1 O2 c h1 h2 h3 h4 => ?_⟩⟩
  · have z : c ≠ a := fun z => by
      subst z
      rcases e5 with e5 | e5
      · exact n e5
      · rw [e5] at h; cases h
    rw [upd_ne z]; exact R.fr.kp c u h n
  · have q_ := set_at e; clear e; obtain ⟨rfl, e⟩ | ⟨n, e⟩ := q_
    · cases e
    · obtain ⟨v, h1, h2⟩ := R.val j P e
      exact ⟨v, h1, P.up l h2⟩
  · have q_ := set_at e; clear e; obtain ⟨rfl, e⟩ | ⟨n, e⟩ := q_
    · cases e; exact ⟨a, o', hs, upd_same, hw o e2 e3, e4, e5, e6⟩
    · obtain ⟨c, u, h1, h2, h3, h4, h5, h6⟩ := R.own j b' O1 e
      have z : c ≠ a := fun z => by
        subst z
        exact n (R.sep j i b' b O1 O c e hg h1 hs)
      exact ⟨c, u, h1, by rw [upd_ne z]; exact h2, O1.up l h3, h4, h5, h6⟩
  · have q1 : ∃ (b : Bool) (O : Ow), Γ[j]? = some (Slt.own b O) := by
      rcases set_at h1 with ⟨rfl, _⟩ | ⟨_, h1⟩
      · exact ⟨_, _, hg⟩
      · exact ⟨_, _, h1⟩
    have q2 : ∃ (b : Bool) (O : Ow), Γ[k]? = some (Slt.own b O) := by
      rcases set_at h2 with ⟨rfl, _⟩ | ⟨_, h2⟩
      · exact ⟨_, _, hg⟩
      · exact ⟨_, _, h2⟩
    obtain ⟨_, _, q1⟩ := q1
    obtain ⟨_, _, q2⟩ := q2
    exact R.sep j k _ _ _ _ c q1 q2 h3 h4
/-- the owner lets go -/
theorem Rel.freeze (R : Rel F Γ S σ H) (hg : Γ[i]? = some (.own b O)) (hs : σ[i]? = some (some (.ref a))) : Le S H (fun c => S c ∨ c = a) H ∧ O.pv.p (fun c => S c ∨ c = a) H (.ref a) ∧ Rel F (Γ.set i (.val O.pv)) (fun c => S c ∨ c = a) σ H := by
  obtain ⟨a', o, e1, e2, e3, e4, e5, e6⟩ := R.own i b O hg
  rw [hs] at e1; cases e1
  have l : Le S H (fun c => S c ∨ c = a) H := .ex (fun _ h => .inl h) (fun _ _ h _ => h)
  have hp := O.to (S := fun c => S c ∨ c = a) (.inr rfl) e2 (O.up l e3)
  refine ⟨l, hp, ⟨⟨R.fr.kp, fun c h => ?_, fun c h => .inl (R.fr.le c h), R.fr.dm, fun c h => ?_⟩, by rw [List.length_set]; exact R.len, fun j P e => ?_, fun j b' O1 e => ?_, fun j k b1 b2 O1 O2 c h1 h2 h3 h4 => ?_⟩⟩
  · rcases h with h | rfl
    · exact R.fr.fz c h
    · exact e5.elim (fun z => .inr (.inr z)) fun z => .inr (.inl z)
  · rcases h with h | rfl
    · exact R.fr.sd c h
    · rw [e2]; exact fun z => nomatch z
  · have q_ := set_at e; clear e; obtain ⟨rfl, e⟩ | ⟨n, e⟩ := q_
    · cases e; exact ⟨_, hs, hp⟩
    · obtain ⟨v, h1, h2⟩ := R.val j P e
      exact ⟨v, h1, P.up l h2⟩
  · have q_ := set_at e; clear e; obtain ⟨rfl, e⟩ | ⟨n, e⟩ := q_
    · cases e
    · obtain ⟨c, u, h1, h2, h3, h4, h5, h6⟩ := R.own j b' O1 e
      refine ⟨c, u, h1, h2, O1.up l h3, fun z => z.elim h4 fun z => ?_, h5, h6⟩
      subst z
      exact n (R.sep j i b' b O1 O c e hg h1 hs)
  · have q_ := set_at h1; clear h1; obtain ⟨rfl, h1⟩ | ⟨n1, h1⟩ := q_
    · cases h1
    have q_ := set_at h2; clear h2; obtain ⟨rfl, h2⟩ | ⟨n2, h2⟩ := q_
    · cases h2
    exact R.sep j k b1 b2 O1 O2 c h1 h2 h3 h4
end
end Mi
namespace Mi
open PySem PySem.Spec PyProof.Rows L2
open Sl (isTup sz szl)
inductive Vo | val (P : Pv) | own (O : Ow)
def Vo.is (F : Fr) (Γ : Ctx) (σ : L2.St) (S : Fz) (H : Hp) : Vo → V → Prop
  | .val P, v => P.p S H v
  | .own O, v => ∃ a o, v = .ref a ∧ H a = some o ∧ O.w S H o ∧ ¬ S a ∧ (F.I a ∨ F.H0 a = none) ∧ ¬ Held Γ σ a
inductive Ag | val (P : Pv) | io (i : Nat)
def Ag.is (σ : L2.St) (S : Fz) (H : Hp) : Ag → V → Prop
  | .val P, v => P.p S H v
  | .io i, v => σ[i]? = some (some v)
def AgsOk (σ : L2.St) (S : Fz) (H : Hp) : List V → List Ag → Prop
  | [], [] => True
  | v :: vs, g :: gs => g.is σ S H v ∧ AgsOk σ S H vs gs
  | _, _ => False
/-- what is wanted of an exception e -/
def ErH (A : Nat → Addr) (e : Er) (E : XK) (H : Hp) : Prop := match e.f with
  | .no => E (.ref (A e.c)) none H
  | .int i => ∀ dd n, H dd = some (.xd [(n, .int i)]) → E (.ref (A e.c)) (some dd) H
  | .str s => ∀ dd n, H dd = some (.xd [(n, .str s)]) → E (.ref (A e.c)) (some dd) H
section
variable {ρ : Type} (A : Nat → Addr)
def EOk (E : XK) (F : Fr) (T : Res ρ → Prop) : Prop := ∀ e, T (.err e) → ∀ S' H', FrOk F S' H' → ErH A e E H'
structure Ok0 (E : XK) (F : Fr) (T : Res ρ → Prop) : Prop where
  nb : ¬ T .bad
  er : EOk A E F T
variable (E : L2.St → XK)
def WX (Γ : Ctx) (t : TE) (c : Res ρ) (κ : Ctx → Vo → Res ρ → Prop) : Prop :=
  ∀ (F : Fr) (T : Res ρ → Prop) (S : Fz) (σ : L2.St) (H : Hp) (Q : VK), Ok0 A (E σ) F T → Rel F Γ S σ H → T c →
    (∀ Γ' V c', κ Γ' V c' → ∀ S' H' v, Rel F Γ' S' σ H' → Le S H S' H' → V.is F Γ' σ S' H' v → T c' → Q v H') → t σ H Q
def WT (Γ : Ctx) (t : TT) (c : Res ρ) (κ : Ctx → Bool → Res ρ → Prop) : Prop :=
  ∀ (F : Fr) (T : Res ρ → Prop) (S : Fz) (σ : L2.St) (H : Hp) (Q : Bool → Hp → Prop), Ok0 A (E σ) F T → Rel F Γ S σ H → T c →
    (∀ Γ' b c', κ Γ' b c' → ∀ S' H', Rel F Γ' S' σ H' → Le S H S' H' → T c' → Q b H') → t σ H Q
def WA (Γ : Ctx) (t : TA) (c : Res ρ) (κ : Ctx → List Ag → Res ρ → Prop) : Prop :=
  ∀ (F : Fr) (T : Res ρ → Prop) (S : Fz) (σ : L2.St) (H : Hp) (Q : List V → Hp → Prop), Ok0 A (E σ) F T → Rel F Γ S σ H → T c →
    (∀ Γ' gs c', κ Γ' gs c' → ∀ S' H' vs, Rel F Γ' S' σ H' → Le S H S' H' → AgsOk σ S' H' vs gs → T c' → Q vs H') → t σ H Q
/-- an operator on values -/
def RX (r : R2) (P P' : Pv) (Γ : Ctx) (c : Res ρ) (κ : Ctx → Vo → Res ρ → Prop) : Prop :=
  ∀ (F : Fr) (T : Res ρ → Prop) (S : Fz) (σ : L2.St) (H : Hp) (x y : V) (Q : VK), Ok0 A (E σ) F T → Rel F Γ S σ H → T c → P.p S H x → P'.p S H y →
    (∀ Γ' V c', κ Γ' V c' → ∀ S' H' v, Rel F Γ' S' σ H' → Le S H S' H' → V.is F Γ' σ S' H' v → T c' → Q v H') → r x y H Q
def RU (r : V → Hp → VK → Prop) (P : Pv) (Γ : Ctx) (c : Res ρ) (κ : Ctx → Vo → Res ρ → Prop) : Prop :=
  ∀ (F : Fr) (T : Res ρ → Prop) (S : Fz) (σ : L2.St) (H : Hp) (x : V) (Q : VK), Ok0 A (E σ) F T → Rel F Γ S σ H → T c → P.p S H x →
    (∀ Γ' V c', κ Γ' V c' → ∀ S' H' v, Rel F Γ' S' σ H' → Le S H S' H' → V.is F Γ' σ S' H' v → T c' → Q v H') → r x H Q
/-- a call of a built-in on values -/
def RC (r : L2.St → List V → Hp → VK → Prop) (gs : List Ag) (Γ : Ctx) (c : Res ρ) (κ : Ctx → Vo → Res ρ → Prop) : Prop :=
  ∀ (F : Fr) (T : Res ρ → Prop) (S : Fz) (σ : L2.St) (H : Hp) (vs : List V) (Q : VK), Ok0 A (E σ) F T → Rel F Γ S σ H → T c → AgsOk σ S H vs gs →
    (∀ Γ' V c', κ Γ' V c' → ∀ S' H' v, Rel F Γ' S' σ H' → Le S H S' H' → V.is F Γ' σ S' H' v → T c' → Q v H') → r σ vs H Q
def WG (Γ : Ctx) (g : TG) (P : Pv) (κ : Ctx → Prop) : Prop :=
  ∀ (F : Fr) (S : Fz) (σ : L2.St) (H : Hp) (x : V) (Q : L2.St → Hp → Prop), Rel F Γ S σ H → P.p S H x →
    (∀ Γ', κ Γ' → ∀ σ', Rel F Γ' S σ' H → Q σ' H) → g x σ H Q
def WGs (Γ : Ctx) (g : TGs) (ps : List Pv) (κ : Ctx → Prop) : Prop :=
  ∀ (F : Fr) (S : Fz) (σ : L2.St) (H : Hp) (xs : List V) (Q : L2.St → Hp → Prop), Rel F Γ S σ H → PsOk S H xs ps →
    (∀ Γ', κ Γ' → ∀ σ', Rel F Γ' S σ' H → Q σ' H) → g xs σ H Q
/-- what a loop walks -/
def ItOk (F : Fr) (J : It) (ps : List Pv) (S : Fz) (H : Hp) : Prop := ps.length ≤ sizeLine ∧ ∀ S1 H1, Le S H S1 H1 → FrOk F S1 H1 → (∀ i, i < ps.length → J.go i H1) ∧ J.stop ps.length H1 ∧
  ∀ i x H', i < ps.length → J.yld i H1 x H' → ∃ P, ps[i]? = some P ∧ (H' = H1 ∨ ∃ p o, H1 p = none ∧ H' = upd H1 p o) ∧ P.p S1 H' x
def WI (Γ : Ctx) (w : TI) (c : Res ρ) (κ : Ctx → List Pv → Res ρ → Prop) : Prop :=
  ∀ (F : Fr) (T : Res ρ → Prop) (S : Fz) (σ : L2.St) (H : Hp) (R : It → Hp → Prop), Ok0 A (E σ) F T → Rel F Γ S σ H → T c →
    (∀ Γ' ps c', κ Γ' ps c' → ∀ S' H' J, Rel F Γ' S' σ H' → Le S H S' H' → T c' → ItOk F J ps S' H' → R J H') → w σ H R
structure Dl (ρ : Type) where
  nx : Ctx → Res ρ → Prop
  rt : Ctx → Vo → Res ρ → Prop := fun _ _ _ => False
  bk : Ctx → Res ρ → Prop := fun _ _ => False
  ct : Ctx → Res ρ → Prop := fun _ _ => False
structure DOk (F : Fr) (T : Res ρ → Prop) (S : Fz) (H : Hp) (Δ : Dl ρ) (D : Ends) : Prop where
  nx : ∀ Γ' c', Δ.nx Γ' c' → ∀ S' σ' H', Rel F Γ' S' σ' H' → Le S H S' H' → T c' → D.nx σ' H'
  rt : ∀ Γ' V c', Δ.rt Γ' V c' → ∀ S' σ' H' v, Rel F Γ' S' σ' H' → Le S H S' H' → V.is F Γ' σ' S' H' v → T c' → D.rt v H'
  bk : ∀ Γ' c', Δ.bk Γ' c' → ∀ S' σ' H', Rel F Γ' S' σ' H' → Le S H S' H' → T c' → D.bk σ' H'
  ct : ∀ Γ' c', Δ.ct Γ' c' → ∀ S' σ' H', Rel F Γ' S' σ' H' → Le S H S' H' → T c' → D.ct σ' H'
def WS (Γ : Ctx) (s : TS) (c : Res ρ) (Δ : Dl ρ) : Prop :=
  ∀ (F : Fr) (T : Res ρ → Prop) (S : Fz) (σ : L2.St) (H : Hp) (D : Ends), (∀ σ, Ok0 A (E σ) F T) → Rel F Γ S σ H → T c → DOk F T S H Δ D → s D σ H
end
theorem DOk.le {ρ : Type} {F : Fr} {T : Res ρ → Prop} {S S1 : Fz} {H H1 : Hp} {Δ : Dl ρ} {D : Ends} (d : DOk F T S H Δ D) (l : Le S H S1 H1) : DOk F T S1 H1 Δ D :=
  ⟨fun Γ c h S' σ' H' R l' => d.nx Γ c h S' σ' H' R (l.trans l'), fun Γ V c h S' σ' H' v R l' => d.rt Γ V c h S' σ' H' v R (l.trans l'), fun Γ c h S' σ' H' R l' => d.bk Γ c h S' σ' H' R (l.trans l'), fun Γ c h S' σ' H' R l' => d.ct Γ c h S' σ' H' R (l.trans l')⟩
/-! ### kinds of values -/
def yInt (i : Int) : Pv := ⟨fun _ _ v => v = .int i, fun _ h => h⟩
def yStr (s : Str) : Pv := ⟨fun _ _ v => v = .str s, fun _ h => h⟩
def yBl (b : Bool) : Pv := ⟨fun _ _ v => v = .bl b, fun _ h => h⟩
def yNon : Pv := ⟨fun _ _ v => v = .non, fun _ h => h⟩
theorem le_sqT {K : PySem.W.Frag} {S S' : Fz} {H H' : Hp} {a : Addr} {xs : List V} (l : Le S H S' H') (h : SqT K H a xs) : SqT K H' a xs :=
  h.imp (fun h => l.rd (fun _ _ e => nomatch e) (fun _ _ _ e => nomatch e) h (.inr rfl)) id
/-- a list that stands -/
def LsF (K : PySem.W.Frag) (S : Fz) (H : Hp) (a : Addr) (xs : List V) : Prop := SqL K H a xs ∧ ((S a ∧ Rd H a (.lst xs)) ∨ ∀ H', SqL K H' a xs)
theorem le_lsF {K : PySem.W.Frag} {S S' : Fz} {H H' : Hp} {a : Addr} {xs : List V} (l : Le S H S' H') (h : LsF K S H a xs) : LsF K S' H' a xs := by
  rcases h.2 with ⟨hs, hr⟩ | h
  · have : Rd H' a (.lst xs) := l.rd (fun _ _ e => nomatch e) (fun _ _ _ e => nomatch e) hr (.inl hs)
    exact ⟨.inl this, .inl ⟨l.fz a hs, this⟩⟩
  · exact ⟨h _, .inr h⟩
def pTup (K : PySem.W.Frag) (ps : List Pv) : Pv := ⟨fun S H v => ∃ a vs, v = .ref a ∧ SqT K H a vs ∧ PsOk S H vs ps ∧ vs.length ≤ sizeLine, fun l ⟨a, vs, h1, h2, h3, h4⟩ => ⟨a, vs, h1, le_sqT l h2, h3.up l, h4⟩⟩
def pLst (K : PySem.W.Frag) (ps : List Pv) : Pv := ⟨fun S H v => ∃ a vs, v = .ref a ∧ LsF K S H a vs ∧ PsOk S H vs ps ∧ vs.length ≤ sizeLine, fun l ⟨a, vs, h1, h2, h3, h4⟩ => ⟨a, vs, h1, le_lsF l h2, h3.up l, h4⟩⟩
/-- a list or a tuple -/
def pSeq (K : PySem.W.Frag) (ps : List Pv) : Pv := ⟨fun S H v => (pLst K ps).p S H v ∨ (pTup K ps).p S H v, fun l h => h.imp ((pLst K ps).up l) ((pTup K ps).up l)⟩
def oLst (K : PySem.W.Frag) (ps : List Pv) : Ow where
  w S H o := ∃ vs, o = .lst vs ∧ PsOk S H vs ps ∧ vs.length ≤ sizeLine
  up l h := by obtain ⟨vs, h1, h2, h3⟩ := h; exact ⟨vs, h1, h2.up l, h3⟩
  nt h := by obtain ⟨vs, rfl, _⟩ := h; rfl
  pv := pLst K ps
  to hs he h := by obtain ⟨vs, rfl, h2, h3⟩ := h; exact ⟨_, vs, rfl, ⟨.inl (.inl he), .inl ⟨hs, .inl he⟩⟩, h2, h3⟩
abbrev yTup (K : PySem.W.Frag) {α : Type} (t : α → Pv) (xs : List α) : Pv := pTup K (xs.map t)
abbrev yLst (K : PySem.W.Frag) {α : Type} (t : α → Pv) (xs : List α) : Pv := pLst K (xs.map t)
abbrev ySeqq (K : PySem.W.Frag) {α : Type} (t : α → Pv) (xs : List α) : Pv := pSeq K (xs.map t)
def yPr (K : PySem.W.Frag) {α β : Type} (t : α → Pv) (u : β → Pv) (x : α × β) : Pv := pTup K [t x.1, u x.2]
def yTr (K : PySem.W.Frag) {α β γ : Type} (t : α → Pv) (u : β → Pv) (w : γ → Pv) (x : α × β × γ) : Pv := pTup K [t x.1, u x.2.1, w x.2.2]
def yOpt {α : Type} (t : α → Pv) : Option α → Pv
  | none => yNon
  | some x => t x
section
variable {ρ : Type} {A : Nat → Addr} {E : L2.St → XK} {K : PySem.W.Frag} {Γ : Ctx} {c : Res ρ} {κ : Ctx → Vo → Res ρ → Prop} {κt : Ctx → Bool → Res ρ → Prop} {κa : Ctx → List Ag → Res ρ → Prop} {ta tb t : TE} {tt uu : TT} {tr : TA} {i j : Nat} {P P' : Pv} {O : Ow} {ps qs : List Pv} {r : R2} {Δ : Dl ρ} {s s2 : TS}
/-! ### expressions -/
theorem wx_c {v : V} (P : Pv) (hp : ∀ S H, P.p S H v) (h : κ Γ (.val P) c) : WX A E Γ (tC v) c κ := fun F T S σ H Q O R hc k => k _ _ _ h S H v R Le.refl (hp S H) hc
theorem wx_int {i : Int} (h : κ Γ (.val (yInt i)) c) : WX A E Γ (tC (.int i)) c κ := wx_c (yInt i) (fun _ _ => rfl) h
theorem wx_str {x : Str} (h : κ Γ (.val (yStr x)) c) : WX A E Γ (tC (.str x)) c κ := wx_c (yStr x) (fun _ _ => rfl) h
theorem wx_bl {b : Bool} (h : κ Γ (.val (yBl b)) c) : WX A E Γ (tC (.bl b)) c κ := wx_c (yBl b) (fun _ _ => rfl) h
theorem wx_non (h : κ Γ (.val yNon) c) : WX A E Γ (tC .non) c κ := wx_c yNon (fun _ _ => rfl) h
theorem wx_var (hg : Γ[i]? = some (.val P)) (h : κ Γ (.val P) c) : WX A E Γ (tVar i) c κ := fun F T S σ H Q O R hc k => by
  obtain ⟨v, e, hv⟩ := R.val i P hg
  exact ⟨v, e, k _ _ _ h S H v R Le.refl hv hc⟩
/-- a new object, from now on read only -/
theorem wx_fz (h : WX A E Γ t c fun Γ' V c' => ∃ O, V = .own O ∧ κ Γ' (.val O.pv) c') : WX A E Γ t c κ := fun F T S σ H Q O R hc k => by
  refine h F T S σ H Q O R hc fun Γ' V c' h S' H' v R' l hv hc' => ?_
  obtain ⟨O', rfl, h⟩ := h
  obtain ⟨a, o, rfl, h1, h2, h3, h4, h5⟩ := hv
  have l2 : Le S' H' (fun c => S' c ∨ c = a) H' := .ex (fun _ h => .inl h) (fun _ _ h _ => h)
  refine k _ _ _ h (fun c => S' c ∨ c = a) H' _ ?_ (l.trans l2) (O'.to (.inr rfl) h1 (O'.up l2 h2)) hc'
  refine ⟨⟨R'.fr.kp, fun c h => ?_, fun c h => .inl (R'.fr.le c h), R'.fr.dm, fun c h => ?_⟩, R'.len, fun j P e => ?_, fun j b' O1 e => ?_, R'.sep⟩
  · rcases h with h | rfl
    · exact R'.fr.fz c h
    · exact h4.elim (fun z => .inr (.inr z)) fun z => .inr (.inl z)
  · rcases h with h | rfl
    · exact R'.fr.sd c h
    · rw [h1]; exact fun z => nomatch z
  · obtain ⟨v, h1, h2⟩ := R'.val j P e
    exact ⟨v, h1, P.up l2 h2⟩
  · obtain ⟨c, u, q1, q2, q3, q4, q5, q6⟩ := R'.own j b' O1 e
    refine ⟨c, u, q1, q2, O1.up l2 q3, fun z => z.elim q4 fun z => ?_, q5, q6⟩
    subst z
    exact h5 ⟨j, b', O1, e, q1⟩
/-- what a slot owns is given away -/
theorem wx_take (hg : Γ[i]? = some (.own false O)) (h : κ (Γ.set i .any) (.own O) c) : WX A E Γ (tVar i) c κ := fun F T S σ H Q _ R hc k => by
  obtain ⟨a, o, e1, e2, e3, e4, e5, e6⟩ := R.own i false O hg
  have R' : Rel F (Γ.set i .any) S (σ.set i (some (.ref a))) H := R.wipe1 _ (.inr (.inr trivial))
  have es : σ.set i (some (.ref a)) = σ := by
    apply List.ext_getElem?
    intro j
    by_cases z : i = j
    · subst z
      rw [e1]
      exact set_eq (List.getElem?_eq_some_iff.mp e1).1
    · rw [List.getElem?_set_ne z]
  rw [es] at R'
  refine ⟨_, e1, k _ _ _ h S H _ R' Le.refl ⟨a, o, rfl, e2, e3, e4, e5, fun ⟨j, b, O', w1, w2⟩ => ?_⟩ hc⟩
  rcases set_at w1 with ⟨_, w⟩ | ⟨n, w⟩
  · cases w
  · exact n (R.sep j i b false O' O a w hg w2 e1)
theorem wx_op (h : WX A E Γ ta c fun Γ1 V1 c1 => ∃ P1, V1 = .val P1 ∧ WX A E Γ1 tb c1 fun Γ2 V2 c2 => ∃ P2, V2 = .val P2 ∧ RX A E r P1 P2 Γ2 c2 κ) : WX A E Γ (tOp r ta tb) c κ := fun F T S σ H Q O R hc k => by
  refine h F T S σ H _ O R hc fun Γ1 V1 c1 h1 S1 H1 x R1 l1 p1 hc1 => ?_
  obtain ⟨P1, rfl, h1⟩ := h1
  refine h1 F T S1 σ H1 _ O R1 hc1 fun Γ2 V2 c2 h2 S2 H2 y R2 l2 p2 hc2 => ?_
  obtain ⟨P2, rfl, h2⟩ := h2
  exact h2 F T S2 σ H2 x y Q O R2 hc2 (P1.up l2 p1) p2 fun Γ' V c' q S' H' v R' l => k Γ' V c' q S' H' v R' ((l1.trans l2).trans l)
theorem wx_un {r : V → Hp → VK → Prop} (h : WX A E Γ ta c fun Γ1 V1 c1 => ∃ P1, V1 = .val P1 ∧ RU A E r P1 Γ1 c1 κ) : WX A E Γ (tUn r ta) c κ := fun F T S σ H Q O R hc k => by
  refine h F T S σ H _ O R hc fun Γ1 V1 c1 h1 S1 H1 x R1 l1 p1 hc1 => ?_
  obtain ⟨P1, rfl, h1⟩ := h1
  exact h1 F T S1 σ H1 x Q O R1 hc1 p1 fun Γ' V c' q S' H' v R' l => k Γ' V c' q S' H' v R' (l1.trans l)
theorem wx_cb {r : List V → Hp → VK → Prop} (h : WA A E Γ tr c fun Γ1 gs c1 => RC A E (fun _ => r) gs Γ1 c1 κ) : WX A E Γ (tCB r tr) c κ := fun F T S σ H Q O R hc k => by
  refine h F T S σ H _ O R hc fun Γ1 gs c1 h1 S1 H1 xs R1 l1 p1 hc1 => ?_
  exact h1 F T S1 σ H1 xs Q O R1 hc1 p1 fun Γ' V c' q S' H' v R' l => k Γ' V c' q S' H' v R' (l1.trans l)
/-! arguments -/
theorem AgsOk.up {σ : L2.St} {S S' : Fz} {H H' : Hp} (l : Le S H S' H') : ∀ {vs : List V} {gs : List Ag}, AgsOk σ S H vs gs → AgsOk σ S' H' vs gs
  | [], [], _ => trivial
  | [], _ :: _, h => False.elim h
  | _ :: _, [], h => False.elim h
  | _ :: _, .val P :: _, h => ⟨P.up l h.1, AgsOk.up l h.2⟩
  | _ :: _, .io i :: _, h => ⟨h.1, AgsOk.up l h.2⟩
theorem wa_nil (h : κa Γ [] c) : WA A E Γ tNil c κa := fun F T S σ H Q O R hc k => k _ _ _ h S H [] R Le.refl trivial hc
theorem wa_cons (h : WX A E Γ ta c fun Γ1 V1 c1 => ∃ P1, V1 = .val P1 ∧ WA A E Γ1 tr c1 fun Γ2 gs c2 => κa Γ2 (.val P1 :: gs) c2) : WA A E Γ (tCons ta tr) c κa := fun F T S σ H Q O R hc k => by
  refine h F T S σ H _ O R hc fun Γ1 V1 c1 h1 S1 H1 x R1 l1 p1 hc1 => ?_
  obtain ⟨P1, rfl, h1⟩ := h1
  exact h1 F T S1 σ H1 _ O R1 hc1 fun Γ2 gs c2 h2 S2 H2 xs R2 l2 p2 hc2 => k _ _ _ h2 S2 H2 _ R2 (l1.trans l2) ⟨P1.up l2 p1, p2⟩ hc2
theorem wa_io {b : Bool} (hg : Γ[i]? = some (.own b O)) (h : WA A E Γ tr c fun Γ2 gs c2 => κa Γ2 (.io i :: gs) c2) : WA A E Γ (tCons (tVar i) tr) c κa := fun F T S σ H Q O R hc k => by
  obtain ⟨a, o, e1, _⟩ := R.own i b _ hg
  exact ⟨_, e1, h F T S σ H _ O R hc fun Γ2 gs c2 h2 S2 H2 xs R2 l2 p2 hc2 => k _ _ _ h2 S2 H2 _ R2 l2 ⟨e1, p2⟩ hc2⟩
def vals : List Pv → List Ag := List.map Ag.val
theorem AgsOk.pvs {σ : L2.St} {S : Fz} {H : Hp} : ∀ {vs : List V} {ps : List Pv}, AgsOk σ S H vs (vals ps) → PsOk S H vs ps
  | [], [], _ => trivial
  | [], _ :: _, h => False.elim h
  | _ :: _, [], h => False.elim h
  | _ :: _, _ :: _, h => ⟨h.1, AgsOk.pvs h.2⟩
/-! displays -/
theorem wx_tup (h : WA A E Γ tr c fun Γ1 gs c1 => ∃ ps, gs = vals ps ∧ ps.length ≤ 1000 ∧ κ Γ1 (.val (pTup K ps)) c1) : WX A E Γ (tTup tr) c κ := fun F T S σ H Q O R hc k => by
  refine h F T S σ H _ O R hc fun Γ1 gs c1 h1 S1 H1 xs R1 l1 p1 hc1 => ?_
  obtain ⟨ps, rfl, hl, h1⟩ := h1
  have p1 := p1.pvs
  have hz : xs.length ≤ sizeLine := sz (by rw [p1.length]; omega)
  exact ⟨hz, fun p hp => k _ _ _ h1 S1 _ _ (R1.new hp) (l1.trans (le_new hp)) ⟨p, xs, rfl, .inl (.inl upd_same), p1.up (le_new hp), hz⟩ hc1⟩
theorem Held.dom {F : Fr} {S : Fz} {σ : L2.St} {H : Hp} {a : Addr} (R : Rel F Γ S σ H) (h : Held Γ σ a) : H a ≠ none := by
  obtain ⟨i, b, O, h1, h2⟩ := h
  obtain ⟨a', o, e1, e2, _⟩ := R.own i b O h1
  rw [h2] at e1; cases e1
  rw [e2]; exact fun z => nomatch z
theorem isOwn {F : Fr} {S : Fz} {σ : L2.St} {H : Hp} {p : Addr} {o : HO} (R : Rel F Γ S σ H) (hp : H p = none) (h : O.w S (upd H p o) o) : (Vo.own O).is F Γ σ S (upd H p o) (.ref p) :=
  ⟨p, o, rfl, upd_same, h, R.fr.nfz hp, .inr (R.fr.fresh hp), fun z => z.dom R hp⟩
theorem wx_lst (h : WA A E Γ tr c fun Γ1 gs c1 => ∃ ps, gs = vals ps ∧ ps.length ≤ 1000 ∧ κ Γ1 (.own (oLst K ps)) c1) : WX A E Γ (tLst tr) c κ := fun F T S σ H Q O R hc k => by
  refine h F T S σ H _ O R hc fun Γ1 gs c1 h1 S1 H1 xs R1 l1 p1 hc1 => ?_
  obtain ⟨ps, rfl, hl, h1⟩ := h1
  have p1 := p1.pvs
  have hz : xs.length ≤ sizeLine := sz (by rw [p1.length]; omega)
  exact ⟨hz, fun p hp => k _ _ _ h1 S1 _ _ (R1.new hp) (l1.trans (le_new hp)) (isOwn R1 hp ⟨xs, rfl, p1.up (le_new hp), hz⟩) hc1⟩
/-! ### tests -/
theorem wt_b (h : WX A E Γ t c fun Γ1 V c1 => ∃ b, V = .val (yBl b) ∧ κt Γ1 b c1) : WT A E Γ (tB t) c κt := fun F T S σ H Q O R hc k => by
  refine h F T S σ H _ O R hc fun Γ1 V c1 h1 S1 H1 x R1 l1 p1 hc1 => ?_
  obtain ⟨b, rfl, h1⟩ := h1
  exact ⟨b, p1, k _ _ _ h1 S1 H1 R1 l1 hc1⟩
theorem wt_test (h : WX A E Γ t c fun Γ1 V c1 => ∃ b, V = .val (yBl b) ∧ κt Γ1 b c1) : WT A E Γ (tTest t) c κt := wt_b h
theorem wt_not (h : WT A E Γ tt c fun Γ1 b c1 => κt Γ1 (!b) c1) : WT A E Γ (tNot tt) c κt := fun F T S σ H Q O R hc k =>
  h F T S σ H _ O R hc fun Γ1 b c1 h1 S1 H1 R1 l1 hc1 => k _ _ _ h1 S1 H1 R1 l1 hc1
theorem wt_yes (h : κt Γ true c) : WT A E Γ tYes c κt := fun F T S σ H Q O R hc k => k _ _ _ h S H R Le.refl hc
/-- the second part is plain: it changes nothing and has one answer -/
theorem wt_and (b2 : Bool) (h : WT A E Γ tt c fun Γ1 b1 c1 => (b1 = true → WT A E Γ1 uu c1 fun Γ2 b c2 => Γ2 = Γ1 ∧ c2 = c1 ∧ b = b2) ∧ κt Γ1 (b1 && b2) c1) : WT A E Γ (tAnd tt uu) c κt := fun F T S σ H Q O R hc k => by
  refine h F T S σ H _ O R hc fun Γ1 b1 c1 h1 S1 H1 R1 l1 hc1 => ?_
  cases b1 with
  | false => exact k _ _ _ h1.2 S1 H1 R1 l1 hc1
  | true =>
    refine h1.1 rfl F T S1 σ H1 _ O R1 hc1 fun Γ2 b c2 h2 S2 H2 R2 l2 hc2 => ?_
    obtain ⟨rfl, rfl, rfl⟩ := h2
    exact k _ _ _ h1.2 S2 H2 R2 (l1.trans l2) hc2
/-- the second part may fail or change something: a state μ joins both ways -/
theorem wt_andM {μ : Type} (h : WT A E Γ tt c fun Γ1 b1 c1 => ∃ (Γj : μ → Ctx) (m : Res (Bool × μ)) (s0 : μ) (k' : Bool × μ → Res ρ), c1 = (if b1 = true then m else .ok (false, s0)).bind k' ∧ Sub Γ1 (Γj s0) ∧ (b1 = true → WT A E Γ1 uu m fun Γ2 b c2 => ∃ s, c2 = .ok (b, s) ∧ Sub Γ2 (Γj s)) ∧ ∀ q, κt (Γj q.2) q.1 (k' q)) : WT A E Γ (tAnd tt uu) c κt := fun F T S σ H Q O R hc k => by
  refine h F T S σ H _ O R hc fun Γ1 b1 c1 h1 S1 H1 R1 l1 hc1 => ?_
  obtain ⟨Γj, m, s0, k', rfl, sb, hm, hk⟩ := h1
  cases b1 with
  | false => exact k _ _ _ (hk (false, s0)) S1 H1 (R1.sub sb) l1 hc1
  | true =>
    refine hm rfl F (fun m => T (m.bind k')) S1 σ H1 _ ⟨O.nb, O.er⟩ R1 hc1 fun Γ2 b c2 h2 S2 H2 R2 l2 hc2 => ?_
    obtain ⟨s, rfl, sb⟩ := h2
    exact k _ _ _ (hk (b, s)) S2 H2 (R2.sub sb) (l1.trans l2) hc2
theorem wt_orM {μ : Type} (h : WT A E Γ tt c fun Γ1 b1 c1 => ∃ (Γj : μ → Ctx) (m : Res (Bool × μ)) (s0 : μ) (k' : Bool × μ → Res ρ), c1 = (if b1 = true then .ok (true, s0) else m).bind k' ∧ Sub Γ1 (Γj s0) ∧ (b1 = false → WT A E Γ1 uu m fun Γ2 b c2 => ∃ s, c2 = .ok (b, s) ∧ Sub Γ2 (Γj s)) ∧ ∀ q, κt (Γj q.2) q.1 (k' q)) : WT A E Γ (tOr tt uu) c κt := fun F T S σ H Q O R hc k => by
  refine h F T S σ H _ O R hc fun Γ1 b1 c1 h1 S1 H1 R1 l1 hc1 => ?_
  obtain ⟨Γj, m, s0, k', rfl, sb, hm, hk⟩ := h1
  cases b1 with
  | true => exact k _ _ _ (hk (true, s0)) S1 H1 (R1.sub sb) l1 hc1
  | false =>
    refine hm rfl F (fun m => T (m.bind k')) S1 σ H1 _ ⟨O.nb, O.er⟩ R1 hc1 fun Γ2 b c2 h2 S2 H2 R2 l2 hc2 => ?_
    obtain ⟨s, rfl, sb⟩ := h2
    exact k _ _ _ (hk (b, s)) S2 H2 (R2.sub sb) (l1.trans l2) hc2
/-! and, or, not as values; of a bool -/
theorem wx_andV (b2 : Bool) (h : WX A E Γ ta c fun Γ1 V1 c1 => ∃ b1, V1 = .val (yBl b1) ∧ (b1 = true → WX A E Γ1 tb c1 fun Γ2 V c2 => Γ2 = Γ1 ∧ c2 = c1 ∧ V = .val (yBl b2)) ∧ κ Γ1 (.val (yBl (b1 && b2))) c1) : WX A E Γ (tAndV ta tb) c κ := fun F T S σ H Q O R hc k => by
  refine h F T S σ H _ O R hc fun Γ1 V1 c1 h1 S1 H1 x R1 l1 p1 hc1 => ?_
  obtain ⟨b1, rfl, h1⟩ := h1
  refine ⟨b1, p1, ?_⟩
  cases b1 with
  | false => exact k _ _ _ h1.2 S1 H1 _ R1 l1 rfl hc1
  | true =>
    refine h1.1 rfl F T S1 σ H1 _ O R1 hc1 fun Γ2 V c2 h2 S2 H2 y R2 l2 p2 hc2 => ?_
    obtain ⟨rfl, rfl, rfl⟩ := h2
    exact k _ _ _ h1.2 S2 H2 _ R2 (l1.trans l2) p2 hc2
theorem wx_notV (h : WX A E Γ ta c fun Γ1 V1 c1 => ∃ b, V1 = .val (yBl b) ∧ κ Γ1 (.val (yBl (!b))) c1) : WX A E Γ (tNotV ta) c κ := fun F T S σ H Q O R hc k => by
  refine h F T S σ H _ O R hc fun Γ1 V1 c1 h1 S1 H1 x R1 l1 p1 hc1 => ?_
  obtain ⟨b, rfl, h1⟩ := h1
  exact ⟨b, p1, k _ _ _ h1 S1 H1 _ R1 l1 rfl hc1⟩
/-- x if b else y, both plain values of one kind -/
theorem wx_if {α : Type} (k1 : α → Pv) (x y : α) (h : WT A E Γ tt c fun Γ1 b c1 => (b = true → WX A E Γ1 ta c1 fun Γ2 V c2 => Γ2 = Γ1 ∧ c2 = c1 ∧ V = .val (k1 x)) ∧ (b = false → WX A E Γ1 tb c1 fun Γ2 V c2 => Γ2 = Γ1 ∧ c2 = c1 ∧ V = .val (k1 y)) ∧ κ Γ1 (.val (k1 (if b = true then x else y))) c1) : WX A E Γ (tIf tt ta tb) c κ := fun F T S σ H Q O R hc k => by
  refine h F T S σ H _ O R hc fun Γ1 b c1 h1 S1 H1 R1 l1 hc1 => ?_
  cases b with
  | true =>
    refine h1.1 rfl F T S1 σ H1 _ O R1 hc1 fun Γ2 V c2 h2 S2 H2 y R2 l2 p2 hc2 => ?_
    obtain ⟨rfl, rfl, rfl⟩ := h2
    exact k _ _ _ h1.2.2 S2 H2 _ R2 (l1.trans l2) p2 hc2
  | false =>
    refine h1.2.1 rfl F T S1 σ H1 _ O R1 hc1 fun Γ2 V c2 h2 S2 H2 y R2 l2 p2 hc2 => ?_
    obtain ⟨rfl, rfl, rfl⟩ := h2
    exact k _ _ _ h1.2.2 S2 H2 _ R2 (l1.trans l2) p2 hc2
theorem wx_ifM {α μ : Type} (k1 : α → Pv) (h : WT A E Γ tt c fun Γ1 b c1 => ∃ (Γj : μ → Ctx) (m n : Res (α × μ)) (k' : α × μ → Res ρ), c1 = (if b = true then m else n).bind k' ∧ (b = true → WX A E Γ1 ta m fun Γ2 V c2 => ∃ x s, V = .val (k1 x) ∧ c2 = .ok (x, s) ∧ Sub Γ2 (Γj s)) ∧ (b = false → WX A E Γ1 tb n fun Γ2 V c2 => ∃ x s, V = .val (k1 x) ∧ c2 = .ok (x, s) ∧ Sub Γ2 (Γj s)) ∧ ∀ q : α × μ, κ (Γj q.2) (.val (k1 q.1)) (k' q)) : WX A E Γ (tIf tt ta tb) c κ := fun F T S σ H Q O R hc k => by
  refine h F T S σ H _ O R hc fun Γ1 b c1 h1 S1 H1 R1 l1 hc1 => ?_
  obtain ⟨Γj, m, n, k', rfl, hm, hn, hk⟩ := h1
  cases b with
  | true =>
    refine hm rfl F (fun m => T (m.bind k')) S1 σ H1 _ ⟨O.nb, O.er⟩ R1 hc1 fun Γ2 V c2 h2 S2 H2 y R2 l2 p2 hc2 => ?_
    obtain ⟨x, s, rfl, rfl, sb⟩ := h2
    exact k _ _ _ (hk (x, s)) S2 H2 _ (R2.sub sb) (l1.trans l2) p2 hc2
  | false =>
    refine hn rfl F (fun m => T (m.bind k')) S1 σ H1 _ ⟨O.nb, O.er⟩ R1 hc1 fun Γ2 V c2 h2 S2 H2 y R2 l2 p2 hc2 => ?_
    obtain ⟨x, s, rfl, rfl, sb⟩ := h2
    exact k _ _ _ (hk (x, s)) S2 H2 _ (R2.sub sb) (l1.trans l2) p2 hc2
/-! ### operators -/
/-- an operation on ints that asks something: the plain part has it as a guard -/
def guard (p : Prop) [Decidable p] : Res Unit := if p then .ok () else .bad
/-- kinds that == tells apart by their values -/
class Scal (α : Type) (t : α → Pv) where
  enc : α → V
  is : ∀ x S H v, (t x).p S H v → v = enc x
  inj : ∀ x y, enc x = enc y → x = y
  sc : ∀ x y, scal (enc x) (enc y) = true
instance : Scal Int yInt := ⟨V.int, fun _ _ _ _ h => h, fun _ _ h => by injection h, fun _ _ => rfl⟩
instance : Scal Str yStr := ⟨V.str, fun _ _ _ _ h => h, fun _ _ h => by injection h, fun _ _ => rfl⟩
instance : Scal Bool yBl := ⟨V.bl, fun _ _ _ _ h => h, fun _ _ h => by injection h, fun _ _ => rfl⟩
theorem rx_eq {α : Type} {t : α → Pv} [DecidableEq α] [I : Scal α t] {x y : α} (h : κ Γ (.val (yBl (decide (x = y)))) c) : RX A E rEq (t x) (t y) Γ c κ := fun F T S σ H v w Q O R hc h1 h2 k => by
  have e1 := I.is _ _ _ _ h1
  have e2 := I.is _ _ _ _ h2
  subst e1; subst e2
  refine ⟨I.sc x y, ?_⟩
  have e : (decide (I.enc x = I.enc y)) = decide (x = y) := decide_eq_decide.mpr ⟨I.inj x y, fun z => by rw [z]⟩
  rw [e]
  exact k _ _ _ h S H _ R Le.refl rfl hc
theorem rx_ne {α : Type} {t : α → Pv} [DecidableEq α] [I : Scal α t] {x y : α} (h : κ Γ (.val (yBl (!decide (x = y)))) c) : RX A E rNe (t x) (t y) Γ c κ := fun F T S σ H v w Q O R hc h1 h2 k => by
  have e1 := I.is _ _ _ _ h1
  have e2 := I.is _ _ _ _ h2
  subst e1; subst e2
  refine ⟨I.sc x y, ?_⟩
  have e : (decide (I.enc x = I.enc y)) = decide (x = y) := decide_eq_decide.mpr ⟨I.inj x y, fun z => by rw [z]⟩
  rw [e]
  exact k _ _ _ h S H _ R Le.refl rfl hc
end
end Mi
namespace Mi
open PySem PySem.Spec PyProof.Rows L2
open Sl (isTup sz szl)
section
variable {ρ : Type} {A : Nat → Addr} {E : L2.St → XK} {K : PySem.W.Frag} {Γ : Ctx} {c : Res ρ} {κ : Ctx → Vo → Res ρ → Prop} {κt : Ctx → Bool → Res ρ → Prop} {κa : Ctx → List Ag → Res ρ → Prop} {κi : Ctx → List Pv → Res ρ → Prop} {ta tb t te : TE} {tt uu : TT} {tr : TA} {i j : Nat} {P P' : Pv} {O : Ow} {ps qs : List Pv} {r : R2} {Δ : Dl ρ} {s s2 tb' : TS} {g : TG} {gs : TGs}
/-! ### statements -/
theorem ws_next (h : Δ.nx Γ c) : WS A E Γ tNext c Δ := fun F T S σ H D O R hc d => d.nx _ _ h S σ H R Le.refl hc
theorem ws_seq (h : WS A E Γ s c { Δ with nx := fun Γ' c' => WS A E Γ' s2 c' Δ }) : WS A E Γ (tSeq s s2) c Δ := fun F T S σ H D O R hc d =>
  h F T S σ H { D with nx := s2 D } O R hc ⟨fun Γ' c' q S' σ' H' R' l hc' => q F T S' σ' H' D O R' hc' (d.le l), d.rt, d.bk, d.ct⟩
theorem ws_ctx {Γ' : Ctx} (e : Γ = Γ') (h : WS A E Γ' s c Δ) : WS A E Γ s c Δ := e ▸ h
theorem wg_ctx {Γ' : Ctx} {κ : Ctx → Prop} (e : Γ = Γ') (h : WG Γ' g P κ) : WG Γ g P κ := e ▸ h
/-- from here on what slot i holds is read only -/
theorem ws_frz (i : Nat) {b : Bool} (hg : Γ[i]? = some (.own b O)) (h : WS A E (Γ.set i (.val O.pv)) s c Δ) : WS A E Γ s c Δ := fun F T S σ H D Ok R hc d => by
  obtain ⟨a, o, e1, _⟩ := R.own i b O hg
  obtain ⟨l, _, R'⟩ := R.freeze hg e1
  exact h F T _ σ H D Ok R' hc (d.le l)
theorem ws_asg (h : WX A E Γ te c fun Γ1 V c1 => ∃ P, V = .val P ∧ WG Γ1 g P fun Γ2 => Δ.nx Γ2 c1) : WS A E Γ (tAsg te g) c Δ := fun F T S σ H D O R hc d => by
  refine h F T S σ H _ (O σ) R hc fun Γ1 V c1 h1 S1 H1 x R1 l1 p1 hc1 => ?_
  obtain ⟨P, rfl, h1⟩ := h1
  exact h1 F S1 σ H1 x _ R1 p1 fun Γ2 h2 σ2 R2 => d.nx _ _ h2 S1 σ2 H1 R2 l1 hc1
theorem wg_name (hi : i < Γ.length) {κ : Ctx → Prop} (h : κ (Γ.set i (.val P))) : WG Γ (gName i) P κ := fun F S σ H x Q R hp k => k _ h _ (R.setv hp hi)
theorem ws_set (h : WX A E Γ te c fun Γ1 V c1 => ∃ P, V = .val P ∧ i < Γ1.length ∧ Δ.nx (Γ1.set i (.val P)) c1) : WS A E Γ (tAsg te (gName i)) c Δ := ws_asg fun F T S σ H Q O R hc k =>
  h F T S σ H Q O R hc fun Γ1 V c1 ⟨P, e, hi, h1⟩ => k Γ1 V c1 ⟨P, e, wg_name hi h1⟩
/-- the value gets a name -/
theorem ws_setL {α : Type} (t : α → Pv) (h : WX A E Γ te c fun Γ1 V c1 => ∃ x k, V = .val (t x) ∧ i < Γ1.length ∧ c1 = lt x k ∧ ∀ x, Δ.nx (Γ1.set i (.val (t x))) (k x)) : WS A E Γ (tAsg te (gName i)) c Δ := ws_set fun F T S σ H Q O R hc k =>
  h F T S σ H Q O R hc fun Γ1 V c1 ⟨x, l, e, hi, e1, h1⟩ S' H' v R' le hv hc' => k Γ1 V (l x) ⟨_, e, hi, h1 x⟩ S' H' v R' le hv (by rw [e1] at hc'; exact hc')
/-- an own object -/
theorem ws_setO {α : Type} (t : α → Ow) (h : WX A E Γ te c fun Γ1 V c1 => ∃ x k, V = .own (t x) ∧ i < Γ1.length ∧ c1 = lt x k ∧ ∀ x, Δ.nx (Γ1.set i (.own false (t x))) (k x)) : WS A E Γ (tAsg te (gName i)) c Δ := fun F T S σ H D O R hc d => by
  refine h F T S σ H _ (O σ) R hc fun Γ1 V c1 h1 S1 H1 x R1 l1 p1 hc1 => ?_
  obtain ⟨x, k, rfl, hi, rfl, h1⟩ := h1
  obtain ⟨a, o, rfl, q1, q2, q3, q4, q5⟩ := p1
  exact d.nx _ _ (h1 x) S1 _ H1 (R1.seto q1 q2 q3 q4 q5 hi) l1 hc1
theorem ws_ret (h : WX A E Γ te c Δ.rt) : WS A E Γ (tRet te) c Δ := fun F T S σ H D O R hc d =>
  h F T S σ H _ (O σ) R hc fun Γ1 V c1 h1 S1 H1 x R1 l1 p1 hc1 => d.rt _ _ _ h1 S1 σ H1 x R1 l1 p1 hc1
theorem ws_if (h : WT A E Γ tt c fun Γ1 b c1 => ∃ ca cb, c1 = (if b = true then ca else cb) ∧ WS A E Γ1 s ca Δ ∧ WS A E Γ1 s2 cb Δ) : WS A E Γ (tIfS tt s s2) c Δ := fun F T S σ H D O R hc d => by
  refine h F T S σ H _ (O σ) R hc fun Γ1 b c1 h1 S1 H1 R1 l1 hc1 => ?_
  obtain ⟨ca, cb, rfl, ha, hb⟩ := h1
  cases b with
  | true => exact ha F T S1 σ H1 D O R1 hc1 (d.le l1)
  | false => exact hb F T S1 σ H1 D O R1 hc1 (d.le l1)
/-- a block whose outcome has a name -/
theorem ws_blk {μ : Type} (Γj : μ → Ctx) {m : Res μ} {k : μ → Res ρ} (e : c = m.bind k) (h : WS A E Γ s m ⟨fun Γ' c' => ∃ x, c' = .ok x ∧ Sub Γ' (Γj x), fun _ _ _ => False, fun _ _ => False, fun _ _ => False⟩) (h2 : ∀ x, Δ.nx (Γj x) (k x)) : WS A E Γ s c Δ := fun F T S σ H D O R hc d => by
  subst e
  refine h F (fun m => T (m.bind k)) S σ H D (fun σ => ⟨(O σ).nb, (O σ).er⟩) R hc ⟨fun Γ' c' q S' σ' H' R' l hc' => ?_, fun _ _ _ z => z.elim, fun _ _ z => z.elim, fun _ _ z => z.elim⟩
  obtain ⟨x, rfl, sb⟩ := q
  exact d.nx _ _ (h2 x) S' σ' H' (R'.sub sb) l hc'
/-! ### targets -/
theorem wg_tup (n : Nat) {κ : Ctx → Prop} (hn : ps.length = n) (h : WGs Γ gs ps κ) : WG Γ (gTup K n gs) (pTup K ps) κ := fun F S σ H x Q R hp k => by
  obtain ⟨a, vs, rfl, hs, hv, hl⟩ := hp
  exact ⟨a, vs, rfl, hs, by rw [hv.length, hn], h F S σ H vs Q R hv k⟩
theorem wgs_nil {κ : Ctx → Prop} (h : κ Γ) : WGs Γ gNil [] κ := fun F S σ H xs Q R hp k => by
  match xs, hp with
  | [], _ => exact ⟨rfl, k _ h σ R⟩
theorem wgs_cons {κ : Ctx → Prop} (h : WG Γ g P fun Γ1 => WGs Γ1 gs ps κ) : WGs Γ (gCons g gs) (P :: ps) κ := fun F S σ H xs Q R hp k => by
  match xs, hp with
  | v :: vs, hp => exact ⟨v, vs, rfl, h F S σ H v _ R hp.1 fun Γ1 h1 σ1 R1 => h1 F S σ1 H vs Q R1 hp.2 k⟩
/-! ### what is walked -/
theorem itl_ok {F : Fr} {S : Fz} {H : Hp} {a : Addr} {vs : List V} (h1 : LsF K S H a vs) (h2 : PsOk S H vs ps) (h3 : vs.length ≤ sizeLine) : ItOk F (Itl K a) ps S H := ⟨h2.length ▸ h3, fun S1 H1 l _ => by
  have q := (le_lsF l h1).1
  have w := walk_list (K := K) (a := a) (xs := vs)
  have e := h2.length
  refine ⟨fun i hi => w.goes i H1 (by rw [e]; exact hi) q, by rw [← e]; exact w.stops H1 q, fun i x H' hi y => ?_⟩
  obtain ⟨rfl, hx⟩ := w.yields i H1 x H' (by rw [e]; exact hi) q y
  obtain ⟨P, h3, h4⟩ := (h2.up l).at hx
  exact ⟨P, h3, .inl rfl, h4⟩⟩
theorem itt_ok {F : Fr} {S : Fz} {H : Hp} {a : Addr} {vs : List V} (h1 : SqT K H a vs) (h2 : PsOk S H vs ps) (h3 : vs.length ≤ sizeLine) : ItOk F (Itt K a) ps S H := ⟨h2.length ▸ h3, fun S1 H1 l _ => by
  have q := le_sqT l h1
  have w := walk_tup (K := K) (a := a) (xs := vs)
  have e := h2.length
  refine ⟨fun i hi => w.goes i H1 (by rw [e]; exact hi) q, by rw [← e]; exact w.stops H1 q, fun i x H' hi y => ?_⟩
  obtain ⟨rfl, hx⟩ := w.yields i H1 x H' (by rw [e]; exact hi) q y
  obtain ⟨P, h3, h4⟩ := (h2.up l).at hx
  exact ⟨P, h3, .inl rfl, h4⟩⟩
theorem wi_list (h : WX A E Γ te c fun Γ1 V c1 => ∃ ps, V = .val (pLst K ps) ∧ κi Γ1 ps c1) : WI A E Γ (iList K te) c κi := fun F T S σ H Q O R hc k => by
  refine h F T S σ H _ O R hc fun Γ1 V c1 h1 S1 H1 x R1 l1 p1 hc1 => ?_
  obtain ⟨ps, rfl, h1⟩ := h1
  obtain ⟨a, vs, rfl, hs, hv, hl⟩ := p1
  exact ⟨a, rfl, ⟨_, hs.1⟩, k _ _ _ h1 S1 H1 _ R1 l1 hc1 (itl_ok hs hv hl)⟩
theorem wi_tup (h : WX A E Γ te c fun Γ1 V c1 => ∃ ps, V = .val (pTup K ps) ∧ κi Γ1 ps c1) : WI A E Γ (iTup K te) c κi := fun F T S σ H Q O R hc k => by
  refine h F T S σ H _ O R hc fun Γ1 V c1 h1 S1 H1 x R1 l1 p1 hc1 => ?_
  obtain ⟨ps, rfl, h1⟩ := h1
  obtain ⟨a, vs, rfl, hs, hv, hl⟩ := p1
  exact ⟨a, rfl, ⟨_, hs⟩, k _ _ _ h1 S1 H1 _ R1 l1 hc1 (itt_ok hs hv hl)⟩
theorem wi_seq (hg : Γ[i]? = some (.val (pSeq K ps))) (h : κi Γ ps c) : WI A E Γ (fun σ H R => iList K (tVar i) σ H R ∨ iTup K (tVar i) σ H R) c κi := fun F T S σ H Q O R hc k => by
  obtain ⟨v, e, hv⟩ := R.val i _ hg
  rcases hv with ⟨a, vs, rfl, hs, hv, hl⟩ | ⟨a, vs, rfl, hs, hv, hl⟩
  · exact .inl ⟨_, e, a, rfl, ⟨_, hs.1⟩, k _ _ _ h S H _ R Le.refl hc (itl_ok hs hv hl)⟩
  · exact .inr ⟨_, e, a, rfl, ⟨_, hs⟩, k _ _ _ h S H _ R Le.refl hc (itt_ok hs hv hl)⟩
def rng (lo : Int) (n : Nat) : List Int := (List.range n).map fun (k : Nat) => lo + (k : Int)
theorem itr_ok {F : Fr} {S : Fz} {H : Hp} {lo : Int} {n : Nat} (hn : n ≤ 100000) : ItOk F (Itr lo n) ((rng lo n).map yInt) S H := by
  have e : ((rng lo n).map yInt).length = n := by simp [rng]
  unfold ItOk
  rw [e]
  refine ⟨sz hn, fun S1 H1 l _ => ?_⟩
  refine ⟨fun i hi => hi, Nat.le_refl _, fun i x H' hi y => ⟨yInt (lo + i), ?_, .inl y.1, y.2⟩⟩
  simp [rng, hi]
/-- the numbers of a range must not be too large -/
theorem wi_rng1 (h : WA A E Γ tr c fun Γ1 gs c1 => ∃ n : Int, ∃ k', gs = [.val (yInt n)] ∧ c1 = (guard (-40000 ≤ n ∧ n ≤ 40000)).bind k' ∧ κi Γ1 ((rng 0 n.toNat).map yInt) (k' ())) : WI A E Γ (iRng1 tr) c κi := fun F T S σ H Q O R hc k => by
  refine h F T S σ H _ O R hc fun Γ1 gs c1 h1 S1 H1 xs R1 l1 p1 hc1 => ?_
  obtain ⟨n, k', rfl, rfl, h1⟩ := h1
  match xs, p1 with
  | [v], p1 =>
    have e : v = .int n := p1.1
    subst e
    unfold guard at hc1
    by_cases z : -40000 ≤ n ∧ n ≤ 40000
    · rw [if_pos z] at hc1
      exact ⟨n, rfl, by omega, by omega, k _ _ _ h1 S1 H1 _ R1 l1 hc1 (itr_ok (by omega))⟩
    · rw [if_neg z] at hc1
      exact absurd hc1 O.nb
/-! ### loops -/
theorem ItOk.walk {F : Fr} {J : It} {S : Fz} {H : Hp} (h : ItOk F J ps S H) : Walk J ps.length (fun H' => ∃ S', Le S H S' H' ∧ FrOk F S' H') (fun i H1 x H' => ∃ P, ps[i]? = some P ∧ (H' = H1 ∨ ∃ p o, H1 p = none ∧ H' = upd H1 p o) ∧ ∀ S', Le S H S' H1 → FrOk F S' H1 → P.p S' H' x) :=
  ⟨fun i H1 hi ⟨S', l, f⟩ => (h.2 S' H1 l f).1 i hi, fun H1 ⟨S', l, f⟩ => (h.2 S' H1 l f).2.1, fun i H1 x H' hi ⟨S', l, f⟩ y => by
    obtain ⟨P, h1, h2, h3⟩ := (h.2 S' H1 l f).2.2 i x H' hi y
    refine ⟨P, h1, h2, fun S2 l2 f2 => ?_⟩
    obtain ⟨P', h1', _, h3'⟩ := (h.2 S2 H1 l2 f2).2.2 i x H' hi y
    rw [h1] at h1'; cases h1'
    exact h3'⟩
theorem pfold_drop {σ α : Type} {f : σ → α → Res σ} {xs : List α} {i : Nat} {x : α} {s : σ} (h : xs[i]? = some x) : pfold f s (xs.drop i) = (f s x).bind fun s' => pfold f s' (xs.drop (i + 1)) := by
  have hi : i < xs.length := (List.getElem?_eq_some_iff.mp h).1
  rw [List.drop_eq_getElem_cons hi, (List.getElem?_eq_some_iff.mp h).2]
  rfl
theorem map_at {α β : Type} {f : α → β} {xs : List α} {i : Nat} {y : β} (h : (xs.map f)[i]? = some y) : ∃ x, xs[i]? = some x ∧ y = f x := by
  rw [List.getElem?_map] at h
  obtain ⟨x, h1, h2⟩ := Option.map_eq_some_iff.mp h
  exact ⟨x, h1, h2.symm⟩
theorem Rel.alloc {F : Fr} {S : Fz} {σ : L2.St} {H H' : Hp} (R : Rel F Γ S σ H) (h : H' = H ∨ ∃ p o, H p = none ∧ H' = upd H p o) : Rel F Γ S σ H' ∧ Le S H S H' := by
  rcases h with rfl | ⟨p, o, hp, rfl⟩
  · exact ⟨R, Le.refl⟩
  · exact ⟨R.new hp, le_new hp⟩
/-- the turns of a loop -/
theorem for_core {F : Fr} {T : Res ρ → Prop} {S1 : Fz} {σ : L2.St} {H1 : Hp} {Γ1 : Ctx} {J : It} {D : Ends} {μ α : Type} {t : α → Pv} {f : μ → α → Res μ} {Γs : μ → Ctx} {xs : List α} {s0 : μ} {k : μ → Res ρ} (O : ∀ σ, Ok0 A (E σ) F T) (R1 : Rel F Γ1 S1 σ H1) (hc1 : T ((pfold f s0 xs).bind k)) (it : ItOk F J (xs.map t) S1 H1) (sb : Sub Γ1 (Γs s0))
      (hb : ∀ s x, WG (Γs s) g (t x) fun Γ2 => WS A E Γ2 tb' (f s x) ⟨fun Γ' c' => ∃ s', c' = .ok s' ∧ Sub Γ' (Γs s'), fun _ _ _ => False, fun _ _ => False, fun Γ' c' => ∃ s', c' = .ok s' ∧ Sub Γ' (Γs s')⟩)
      (hd : ∀ s S2 σ2 H2, Rel F (Γs s) S2 σ2 H2 → Le S1 H1 S2 H2 → T (k s) → D.nx σ2 H2) :
    ∃ W : Nat → Nat → L2.St → Hp → Prop, (∃ m, W 0 m σ H1) ∧ ∀ i m σ H, W i m σ H →
      (J.stop i H ∧ D.nx σ H) ∨ (J.go i H ∧ ∃ N : L2.St → Hp → Prop, (∀ σ' H', N σ' H' → ∃ m', m' < m ∧ W (i + 1) m' σ' H') ∧ ∀ x H', J.yld i H x H' → g x σ H' fun σ2 H2 => tb' { D with nx := N, ct := N, bk := D.nx } σ2 H2) := by
  refine for_it it.walk (fun i σ' H' => ∃ s S', Rel F (Γs s) S' σ' H' ∧ Le S1 H1 S' H' ∧ T ((pfold f s (xs.drop i)).bind k)) ⟨s0, S1, R1.sub sb, Le.refl, hc1⟩ (fun i σ' H' _ ⟨_, S', R, l, _⟩ => ⟨S', l, R.fr⟩) ?_ ?_
  · rintro i x σ2 H2 H3 hi ⟨s, S2, R2, l2, hc2⟩ ⟨P, hP, hal, hp⟩
    obtain ⟨y, hy, rfl⟩ := map_at hP
    obtain ⟨R3, l3⟩ := R2.alloc hal
    rw [pfold_drop hy, bind_assoc] at hc2
    refine hb s y F S2 σ2 H3 x _ R3 (hp S2 l2 R2.fr) fun Γ4 h4 σ4 R4 => ?_
    refine h4 F (fun m => T (m.bind fun s' => (pfold f s' (xs.drop (i + 1))).bind k)) S2 σ4 H3 _ (fun σ => ⟨(O σ).nb, (O σ).er⟩) R4 hc2 ⟨?_, fun _ _ _ z => z.elim, fun _ _ z => z.elim, ?_⟩
    · rintro Γ' c' ⟨s', rfl, sb'⟩ S' σ' H' R' l' hc'
      exact ⟨s', S', R'.sub sb', (l2.trans l3).trans l', hc'⟩
    · rintro Γ' c' ⟨s', rfl, sb'⟩ S' σ' H' R' l' hc'
      exact ⟨s', S', R'.sub sb', (l2.trans l3).trans l', hc'⟩
  · rintro σ2 H2 ⟨s, S2, R2, l2, hc2⟩
    rw [List.length_map, List.drop_length] at hc2
    exact hd s S2 σ2 H2 R2 l2 hc2
theorem ws_for {w : TI} {μ α : Type} (t : α → Pv) (h : WI A E Γ w c fun Γ1 ps c1 => ∃ (f : μ → α → Res μ) (Γs : μ → Ctx) (xs : List α) (s0 : μ) (k : μ → Res ρ), ps = xs.map t ∧ c1 = (pfold f s0 xs).bind k ∧ Sub Γ1 (Γs s0) ∧
      (∀ s x, WG (Γs s) g (t x) fun Γ2 => WS A E Γ2 tb' (f s x) ⟨fun Γ' c' => ∃ s', c' = .ok s' ∧ Sub Γ' (Γs s'), fun _ _ _ => False, fun _ _ => False, fun Γ' c' => ∃ s', c' = .ok s' ∧ Sub Γ' (Γs s')⟩) ∧ ∀ s, Δ.nx (Γs s) (k s)) : WS A E Γ (tFor w g tb') c Δ := fun F T S σ H D O R hc d => by
  refine h F T S σ H _ (O σ) R hc fun Γ1 ps c1 h1 S1 H1 J R1 l1 hc1 it => ?_
  obtain ⟨f, Γs, xs, s0, k, rfl, rfl, sb, hb, hk⟩ := h1
  exact for_core O R1 hc1 it sb hb fun s S2 σ2 H2 R2 l2 hc2 => d.nx _ _ (hk s) S2 σ2 H2 R2 (l1.trans l2) hc2
theorem pfor_drop {σ τ α : Type} {f : σ → α → Res (Fl σ τ)} {xs : List α} {i : Nat} {x : α} {s : σ} (h : xs[i]? = some x) : pfor f s (xs.drop i) = (f s x).bind (pnext fun s' => pfor f s' (xs.drop (i + 1))) := by
  have hi : i < xs.length := (List.getElem?_eq_some_iff.mp h).1
  rw [List.drop_eq_getElem_cons hi, (List.getElem?_eq_some_iff.mp h).2]
  rfl
theorem for_coreF {F : Fr} {T : Res ρ → Prop} {S1 : Fz} {σ : L2.St} {H1 : Hp} {Γ1 : Ctx} {J : It} {D : Ends} {μ α τ : Type} {t : α → Pv} {f : μ → α → Res (Fl μ τ)} {Γs : μ → Ctx} {xs : List α} {s0 : μ} {k : μ → Res ρ} {jr : τ → Res ρ} {Rt : Ctx → Vo → Res ρ → Prop} (O : ∀ σ, Ok0 A (E σ) F T) (R1 : Rel F Γ1 S1 σ H1) (hc1 : T ((pfor f s0 xs).thn k jr)) (it : ItOk F J (xs.map t) S1 H1) (sb : Sub Γ1 (Γs s0))
      (hb : ∀ s x, WG (Γs s) g (t x) fun Γ2 => WS A E Γ2 tb' (f s x) ⟨fun Γ' c' => ∃ s', c' = .ok (.nx s') ∧ Sub Γ' (Γs s'), fun Γ' V c' => ∃ r, c' = .ok (.rt r) ∧ Rt Γ' V (jr r), fun Γ' c' => ∃ s', c' = .ok (.br s') ∧ Sub Γ' (Γs s'), fun Γ' c' => ∃ s', c' = .ok (.nx s') ∧ Sub Γ' (Γs s')⟩)
      (hd : ∀ s S2 σ2 H2, Rel F (Γs s) S2 σ2 H2 → Le S1 H1 S2 H2 → T (k s) → D.nx σ2 H2)
      (hr : ∀ Γ' V c', Rt Γ' V c' → ∀ S' σ' H' v, Rel F Γ' S' σ' H' → Le S1 H1 S' H' → V.is F Γ' σ' S' H' v → T c' → D.rt v H') :
    ∃ W : Nat → Nat → L2.St → Hp → Prop, (∃ m, W 0 m σ H1) ∧ ∀ i m σ H, W i m σ H →
      (J.stop i H ∧ D.nx σ H) ∨ (J.go i H ∧ ∃ N : L2.St → Hp → Prop, (∀ σ' H', N σ' H' → ∃ m', m' < m ∧ W (i + 1) m' σ' H') ∧ ∀ x H', J.yld i H x H' → g x σ H' fun σ2 H2 => tb' { D with nx := N, ct := N, bk := D.nx } σ2 H2) := by
  refine for_it it.walk (fun i σ' H' => ∃ s S', Rel F (Γs s) S' σ' H' ∧ Le S1 H1 S' H' ∧ T ((pfor f s (xs.drop i)).thn k jr)) ⟨s0, S1, R1.sub sb, Le.refl, hc1⟩ (fun i σ' H' _ ⟨_, S', R, l, _⟩ => ⟨S', l, R.fr⟩) ?_ ?_
  · rintro i x σ2 H2 H3 hi ⟨s, S2, R2, l2, hc2⟩ ⟨P, hP, hal, hp⟩
    obtain ⟨y, hy, rfl⟩ := map_at hP
    obtain ⟨R3, l3⟩ := R2.alloc hal
    rw [pfor_drop hy, Res.thn, bind_assoc] at hc2
    refine hb s y F S2 σ2 H3 x _ R3 (hp S2 l2 R2.fr) fun Γ4 h4 σ4 R4 => ?_
    refine h4 F (fun m => T (m.bind fun a => (pnext (fun s' => pfor f s' (xs.drop (i + 1))) a).bind (pafter k jr))) S2 σ4 H3 _ (fun σ => ⟨(O σ).nb, (O σ).er⟩) R4 hc2 ⟨?_, ?_, ?_, ?_⟩
    · rintro Γ' c' ⟨s', rfl, sb'⟩ S' σ' H' R' l' hc'
      exact ⟨s', S', R'.sub sb', (l2.trans l3).trans l', hc'⟩
    · rintro Γ' V c' ⟨r, rfl, q⟩ S' σ' H' v R' l' hv hc'
      exact hr _ _ _ q S' σ' H' v R' ((l2.trans l3).trans l') hv hc'
    · rintro Γ' c' ⟨s', rfl, sb'⟩ S' σ' H' R' l' hc'
      exact hd s' S' σ' H' (R'.sub sb') ((l2.trans l3).trans l') hc'
    · rintro Γ' c' ⟨s', rfl, sb'⟩ S' σ' H' R' l' hc'
      exact ⟨s', S', R'.sub sb', (l2.trans l3).trans l', hc'⟩
  · rintro σ2 H2 ⟨s, S2, R2, l2, hc2⟩
    rw [List.length_map, List.drop_length] at hc2
    exact hd s S2 σ2 H2 R2 l2 hc2
theorem ws_forF {w : TI} {μ α τ : Type} (t : α → Pv) (h : WI A E Γ w c fun Γ1 ps c1 => ∃ (f : μ → α → Res (Fl μ τ)) (Γs : μ → Ctx) (xs : List α) (s0 : μ) (k : μ → Res ρ) (jr : τ → Res ρ), ps = xs.map t ∧ c1 = (pfor f s0 xs).thn k jr ∧ Sub Γ1 (Γs s0) ∧
      (∀ s x, WG (Γs s) g (t x) fun Γ2 => WS A E Γ2 tb' (f s x) ⟨fun Γ' c' => ∃ s', c' = .ok (.nx s') ∧ Sub Γ' (Γs s'), fun Γ' V c' => ∃ r, c' = .ok (.rt r) ∧ Δ.rt Γ' V (jr r), fun Γ' c' => ∃ s', c' = .ok (.br s') ∧ Sub Γ' (Γs s'), fun Γ' c' => ∃ s', c' = .ok (.nx s') ∧ Sub Γ' (Γs s')⟩) ∧ ∀ s, Δ.nx (Γs s) (k s)) : WS A E Γ (tFor w g tb') c Δ := fun F T S σ H D O R hc d => by
  refine h F T S σ H _ (O σ) R hc fun Γ1 ps c1 h1 S1 H1 J R1 l1 hc1 it => ?_
  obtain ⟨f, Γs, xs, s0, k, jr, rfl, rfl, sb, hb, hk⟩ := h1
  exact for_coreF O R1 hc1 it sb hb (fun s S2 σ2 H2 R2 l2 hc2 => d.nx _ _ (hk s) S2 σ2 H2 R2 (l1.trans l2) hc2) fun Γ' V c' q S' σ' H' v R' l' => d.rt Γ' V c' q S' σ' H' v R' (l1.trans l')
end
end Mi
namespace Mi
open PySem PySem.Spec PyProof.Rows L2
open Sl (isTup sz szl)
/-! ### regions: a part of the walk under a frame of its own -/
def Fr.at (F : Fr) (S : Fz) (H : Hp) (I : Fz) : Fr := ⟨S, H, I, F.ad⟩
/-- owned slots are not spoken of -/
def valsC : Ctx → Ctx
  | [] => []
  | .own _ _ :: Γ => .any :: valsC Γ
  | x :: Γ => x :: valsC Γ
def wipeC (Γ : Ctx) : List Nat → Ctx
  | [] => Γ
  | v :: vs => (wipeC Γ vs).set v .any
section
variable {F : Fr} {Γ Γ' : Ctx} {S S' S2 : Fz} {σ σ2 : L2.St} {H H' H2 : Hp} {p a : Addr} {o o' : HO} {i : Nat} {v : V} {P : Pv} {O O' : Ow} {b : Bool}
theorem valsC_len : ∀ Γ : Ctx, (valsC Γ).length = Γ.length
  | [] => rfl
  | .own _ _ :: Γ => congrArg Nat.succ (valsC_len Γ)
  | .any :: Γ => congrArg Nat.succ (valsC_len Γ)
  | .val _ :: Γ => congrArg Nat.succ (valsC_len Γ)
theorem valsC_at : ∀ {Γ : Ctx} {i : Nat} {x : Slt}, (valsC Γ)[i]? = some x → x = .any ∨ (Γ[i]? = some x ∧ ∀ b O, x ≠ .own b O)
  | [], _, _, h => by simp [valsC] at h
  | .own _ _ :: Γ, 0, x, h => by simp [valsC] at h; exact .inl h.symm
  | .any :: Γ, 0, x, h => by simp [valsC] at h; exact .inl h.symm
  | .val _ :: Γ, 0, x, h => by
    simp only [valsC, List.getElem?_cons_zero] at h
    exact .inr ⟨h, fun b O z => by rw [z] at h; cases h⟩
  | .own _ _ :: Γ, i + 1, x, h => valsC_at (Γ := Γ) (i := i) (by simpa [valsC] using h)
  | .any :: Γ, i + 1, x, h => valsC_at (Γ := Γ) (i := i) (by simpa [valsC] using h)
  | .val _ :: Γ, i + 1, x, h => valsC_at (Γ := Γ) (i := i) (by simpa [valsC] using h)
theorem Rel.wipe (R : Rel F Γ S σ H) : ∀ (vs : List Nat), Rel F (wipeC Γ vs) S (L2.wipe σ vs) H
  | [] => R
  | v :: vs => (Rel.wipe R vs).wipe1 none (.inr (.inr trivial))
theorem Rel.vals (R : Rel F Γ S σ H) : Rel F (valsC Γ) S σ H where
  fr := R.fr
  len := R.len.trans (valsC_len Γ).symm
  val := fun i P h => (valsC_at h).elim (fun z => nomatch z) fun z => R.val i P z.1
  own := fun i b O h => (valsC_at h).elim (fun z => nomatch z) fun z => absurd rfl (z.2 b O)
  sep := fun i j b b' O O' a h _ => (valsC_at h).elim (fun z => nomatch z) fun z => absurd rfl (z.2 b O)
/-- only values: any frame -/
theorem Rel.into (R : Rel F (valsC Γ) S σ H) (l : Le S H S' H') (sd : ∀ a, S' a → H' a ≠ none) (I : Fz) : Rel (F.at S' H' I) (valsC Γ) S' σ H' where
  fr := ⟨fun _ _ h _ => h, fun _ h => .inl h, fun _ h => h, fun _ h => h, sd⟩
  len := R.len
  val := fun i P h => by
    obtain ⟨v, e, hv⟩ := R.val i P h
    exact ⟨v, e, P.up l hv⟩
  own := fun i b O h => (valsC_at h).elim (fun z => nomatch z) fun z => absurd rfl (z.2 b O)
  sep := fun i j b b' O O' a h _ => (valsC_at h).elim (fun z => nomatch z) fun z => absurd rfl (z.2 b O)
/-- behind a region that touched nothing of what stood -/
theorem Rel.back {ad : Nat → Addr} (R : Rel F Γ S σ H) (l : Le S H S' H') (f : FrOk ⟨S, H, fun _ => False, ad⟩ S' H') : Rel F Γ S' σ H' :=
  R.move l (fun a o h _ => f.kp a o h fun z => z) (fun a h => (f.fz a h).imp id fun z => z.elim id fun z => z.elim) f.sd (fun a h => f.dm a h)
    fun i b O a o _ _ h1 h2 => ⟨o, f.kp a o h1 fun z => z, O.up l h2⟩
/-- a region with what is held -/
theorem Rel.enter (R : Rel F Γ S σ H) : Rel (F.at S H (Held Γ σ)) Γ S σ H where
  fr := ⟨fun _ _ h _ => h, fun _ h => .inl h, fun _ h => h, fun _ h => h, R.fr.sd⟩
  len := R.len
  val := R.val
  own := fun i b O h => by
    obtain ⟨a, o, e1, e2, e3, e4, e5, e6⟩ := R.own i b O h
    exact ⟨a, o, e1, e2, e3, e4, .inl ⟨i, b, O, h, e1⟩, e6⟩
  sep := R.sep
theorem Rel.leave (R : Rel F Γ S σ H) (R' : Rel (F.at S H (Held Γ σ)) Γ' S' σ2 H') : Rel F Γ' S' σ2 H' := by
  have hI : ∀ a, Held Γ σ a → F.I a ∨ F.H0 a = none := fun a ⟨i, b, O, h1, h2⟩ => by
    obtain ⟨a', o, e1, _, _, _, e5, _⟩ := R.own i b O h1
    rw [h2] at e1; cases e1
    exact e5
  refine ⟨⟨fun a o h n => R'.fr.kp a o (R.fr.kp a o h n) fun z => (hI a z).elim n (fun z => by rw [z] at h; cases h), fun a h => ?_, fun a h => R'.fr.le a (R.fr.le a h), fun a h => R'.fr.dm a (R.fr.dm a h), R'.fr.sd⟩, R'.len, R'.val, fun i b O h => ?_, R'.sep⟩
  · rcases R'.fr.fz a h with h | h | h
    · exact R.fr.fz a h
    · exact .inr (.inl (R.fr.fresh h))
    · exact (hI a h).elim (fun z => .inr (.inr z)) fun z => .inr (.inl z)
  · obtain ⟨a, o, e1, e2, e3, e4, e5, e6⟩ := R'.own i b O h
    exact ⟨a, o, e1, e2, e3, e4, e5.elim (hI a) fun z => .inr (R.fr.fresh z), e6⟩
theorem FrOk.leave {F : Fr} (R : Rel F Γ S σ H) {ad : Nat → Addr} (f : FrOk ⟨S, H, Held Γ σ, ad⟩ S' H') : FrOk F S' H' := by
  have hI : ∀ a, Held Γ σ a → F.I a ∨ F.H0 a = none := fun a ⟨i, b, O, h1, h2⟩ => by
    obtain ⟨a', o, e1, _, _, _, e5, _⟩ := R.own i b O h1
    rw [h2] at e1; cases e1
    exact e5
  refine ⟨fun a o h n => f.kp a o (R.fr.kp a o h n) fun z => (hI a z).elim n (fun z => by rw [z] at h; cases h), fun a h => ?_, fun a h => f.le a (R.fr.le a h), fun a h => f.dm a (R.fr.dm a h), f.sd⟩
  rcases f.fz a h with h | h | h
  · exact R.fr.fz a h
  · exact .inr (.inl (R.fr.fresh h))
  · exact (hI a h).elim (fun z => .inr (.inr z)) fun z => .inr (.inl z)
/-- the slots vs forgotten or not: nothing is said of them -/
theorem wipe_at {vs : List Nat} {i : Nat} (h : i ∉ vs) : (L2.wipe σ vs)[i]? = σ[i]? := by
  induction vs with
  | nil => rfl
  | cons v vs ih =>
    simp only [List.mem_cons, not_or] at h
    rw [L2.wipe, List.getElem?_set_ne (Ne.symm h.1), ih h.2]
theorem wipeC_at {vs : List Nat} {i : Nat} {x : Slt} (h : i ∈ vs) (e : (wipeC Γ vs)[i]? = some x) : x = .any := by
  induction vs with
  | nil => exact absurd h List.not_mem_nil
  | cons v vs ih =>
    rw [wipeC] at e
    rcases set_at e with ⟨_, e⟩ | ⟨n, e⟩
    · exact e
    · exact ih ((List.mem_cons.mp h).resolve_left n) e
theorem Rel.unwipe {vs : List Nat} (R : Rel F (wipeC Γ vs) S σ H) (h : L2.wipe σ vs = L2.wipe σ2 vs) (hl : σ2.length = σ.length) : Rel F (wipeC Γ vs) S σ2 H := by
  have key : ∀ (i : Nat) (x : Slt), (wipeC Γ vs)[i]? = some x → x ≠ Slt.any → σ2[i]? = σ[i]? := fun i x e n => by
    have : i ∉ vs := fun z => n (wipeC_at z e)
    rw [← wipe_at (σ := σ2) this, ← wipe_at (σ := σ) this, h]
  refine ⟨R.fr, hl.trans R.len, fun i P e => ?_, fun i b O e => ?_, fun i j b b' O O' a e1 e2 e3 e4 => ?_⟩
  · rw [key i _ e fun z => nomatch z]; exact R.val i P e
  · rw [key i _ e fun z => nomatch z]; exact R.own i b O e
  · rw [key i _ e1 fun z => nomatch z] at e3
    rw [key j _ e2 fun z => nomatch z] at e4
    exact R.sep i j b b' O O' a e1 e2 e3 e4
end
/-- a target of a comprehension's own names -/
structure GK (g : TG) (vs : List Nat) : Prop where
  mono : ∀ (x : V) (σ : L2.St) (H : Hp) (Q Q' : L2.St → Hp → Prop), (∀ σ' H', Q σ' H' → Q' σ' H') → g x σ H Q → g x σ H Q'
  keep : ∀ (x : V) (σ : L2.St) (H : Hp) (Q : L2.St → Hp → Prop), g x σ H Q → g x σ H fun σ' H' => (L2.wipe σ' vs = L2.wipe σ vs ∧ σ'.length = σ.length) ∧ Q σ' H'
theorem wipe_set_out {σ : L2.St} {j : Nat} {y : Option V} : ∀ {vs : List Nat}, j ∉ vs → L2.wipe (σ.set j y) vs = (L2.wipe σ vs).set j y
  | [], _ => rfl
  | v :: vs, h => by
    simp only [List.mem_cons, not_or] at h
    rw [L2.wipe, L2.wipe, wipe_set_out h.2, List.set_comm _ _ h.1]
theorem wipe_set {σ : L2.St} {j : Nat} {y : Option V} : ∀ {vs : List Nat}, j ∈ vs → L2.wipe (σ.set j y) vs = L2.wipe σ vs
  | v :: vs, h => by
    by_cases z : j ∈ vs
    · rw [L2.wipe, L2.wipe, wipe_set z]
    · have e : j = v := (List.mem_cons.mp h).resolve_right z
      subst e
      rw [L2.wipe, L2.wipe, wipe_set_out z, List.set_set]
theorem gk_name {j : Nat} {vs : List Nat} (h : j ∈ vs) : GK (gName j) vs := ⟨fun x σ H Q Q' k q => k _ _ q, fun x σ H Q q => ⟨⟨wipe_set h, List.length_set⟩, q⟩⟩
/-- nothing is wanted of an exception -/
def ET : L2.St → XK := fun _ _ _ _ => True
theorem erT (A : Nat → Addr) {e : Er} {H : Hp} {σ : L2.St} : ErH A e (ET σ) H := by
  unfold ErH
  split
  · trivial
  · exact fun _ _ _ => trivial
  · exact fun _ _ _ => trivial
theorem ok_unit (A : Nat → Addr) (E : XK) (F : Fr) : Ok0 A E F (fun m : Res Unit => m = .ok ()) := ⟨(fun z => nomatch z), fun e z => nomatch z⟩
section
variable {ρ : Type} {A : Nat → Addr} {E : L2.St → XK} {K : PySem.W.Frag} {Γ : Ctx} {c : Res ρ} {κ : Ctx → Vo → Res ρ → Prop} {te : TE} {tt : TT} {g : TG} {w : TI} {vs : List Nat}
/-! ### comprehensions -/
theorem wipe_sub {σ : L2.St} {vs : List Nat} : ∀ {us : List Nat}, (∀ u ∈ us, u ∈ vs) → L2.wipe (L2.wipe σ us) vs = L2.wipe σ vs
  | [], _ => rfl
  | u :: us, h => by rw [L2.wipe, wipe_set (h u (List.mem_cons_self ..)), wipe_sub fun x hx => h x (List.mem_cons_of_mem _ hx)]
theorem take_step {α β : Type} {xs : List α} {i : Nat} {y : α} (p : α → Bool) (e : α → β) (hy : xs[i]? = some y) : ((xs.take (i + 1)).filter p).map e = ((xs.take i).filter p).map e ++ (if p y = true then [e y] else []) := by
  rw [List.take_add_one, hy, List.filter_append, List.map_append]
  cases z : p y <;> simp [z]
theorem comp0 {F : Fr} {S S' : Fz} {H H' : Hp} (R : FrOk F S H) (f : FrOk ⟨S, H, fun _ => False, F.ad⟩ S' H') : FrOk F S' H' := by
  refine ⟨fun a o h n => f.kp a o (R.kp a o h n) fun z => z, fun a h => ?_, fun a h => f.le a (R.le a h), fun a h => f.dm a (R.dm a h), f.sd⟩
  rcases f.fz a h with h | h | h
  · exact R.fz a h
  · exact .inr (.inl (R.fresh h))
  · exact h.elim
/-- plain parts -/
theorem wx_lc {α β : Type} (t : α → Pv) (u : β → Pv) (p : α → Bool) (e : α → β) (gk : GK g vs) (h : WI A E Γ w c fun Γ1 ps c1 => ∃ xs : List α, ps = xs.map t ∧
      (∀ x, WG (valsC (wipeC Γ1 vs)) g (t x) fun Γ2 => WT A ET Γ2 tt (.ok () : Res Unit) fun Γ3 b c3 => b = p x ∧ (b = true → WX A ET Γ3 te c3 fun Γ4 V c4 => V = .val (u (e x)))) ∧ κ Γ1 (.own (oLst K (((xs.filter p).map e).map u))) c1) : WX A E Γ (tLc w g tt te vs) c κ := fun F T S σ H Q O R hc k => by
  refine h F T S σ H _ O R hc fun Γ1 ps c1 h1 S1 H1 J R1 l1 hc1 it D hD => ?_
  obtain ⟨xs, rfl, hb, hk⟩ := h1
  have hD0 : ¬ S1 D := R1.fr.nfz hD
  have RV := (R1.wipe vs).vals
  have hlen : xs.length ≤ sizeLine := by have := it.1; rwa [List.length_map] at this
  refine lc_it it.walk (fun i H' => ∃ S', FrOk ⟨S1, H1, fun _ => False, F.ad⟩ S' H' ∧ Le S1 H1 S' H' ∧ ¬ S' D ∧ ∃ acc, H' D = some (.lst acc) ∧ PsOk S' H' acc ((((xs.take i).filter p).map e).map u) ∧ acc.length ≤ i) ?_ (fun i H' _ ⟨S', f, l, _⟩ => ⟨S', l, comp0 R1.fr f⟩) ?_ ?_
  · refine ⟨S1, ⟨fun a o h _ => by rw [upd_ne (ne_of_none h hD)]; exact h, fun a h => .inl h, fun a h => h, fun a h => upd_some h, fun a h => upd_some (R1.fr.sd a h)⟩, le_new hD, hD0, [], upd_same, trivial, Nat.le_refl _⟩
  · rintro i x H2 H3 hi ⟨S2, f2, l2, n2, acc, a1, a2, a3⟩ ⟨P, hP, hal, hp⟩
    obtain ⟨y, hy, rfl⟩ := map_at hP
    have R2 := RV.into l2 f2.sd fun _ => False
    obtain ⟨R3, l3⟩ := R2.alloc hal
    have tk := take_step p e hy
    have a4 : acc.length < sizeLine := by
      have h2 : i < xs.length := by simpa using hi
      omega
    refine gk.mono _ _ _ _ _ ?_ (gk.keep _ _ _ _ (hb y _ S2 (L2.wipe σ vs) H3 x (fun σ4 H4 => H4 = H3 ∧ ∃ Γ4, Rel (F.at S2 H2 fun _ => False) Γ4 S2 σ4 H4 ∧ WT A ET Γ4 tt (.ok () : Res Unit) fun Γ3 b c3 => b = p y ∧ (b = true → WX A ET Γ3 te c3 fun Γ4 V c4 => V = .val (u (e y)))) R3 (hp S2 l2 (comp0 R1.fr f2)) fun Γ4 h4 σ4 R4 => ⟨rfl, Γ4, R4, h4⟩))
    rintro σ4 H4 ⟨⟨k1, _⟩, rfl, Γ4, R4, h4⟩
    refine ⟨k1.trans (wipe_sub fun _ h => h), ?_⟩
    have fin : ∀ S6 H6, FrOk (F.at S2 H2 fun _ => False) S6 H6 → FrOk ⟨S1, H1, fun _ => False, F.ad⟩ S6 H6 ∧ H6 D = some (.lst acc) ∧ ¬ S6 D := fun S6 H6 f => ⟨⟨fun a o h _ => f.kp a o (f2.kp a o h fun z => z) fun z => z, fun a h => ?_, fun a h => f.le a (f2.le a h), fun a h => f.dm a (f2.dm a h), f.sd⟩, f.kp D _ a1 fun z => z, fun z => ?_⟩
    · refine h4 _ (fun m => m = .ok ()) S2 σ4 H4 _ (ok_unit A (ET _) _) R4 rfl fun Γ5 b c5 h5 S5 H5 R5 l5 hc5 => ?_
      obtain ⟨rfl, h5⟩ := h5
      cases hpy : p y with
      | true =>
        rw [if_pos rfl]
        refine h5 hpy _ (fun m => m = .ok ()) S5 σ4 H5 _ (ok_unit A (ET _) _) R5 hc5 fun Γ6 V c6 h6 S6 H6 z R6 l6 hz hc6 => ?_
        subst h6
        obtain ⟨f6, d6, n6⟩ := fin S6 H6 R6.fr
        have la : Le S6 H6 S6 (upd H6 D (.lst (acc ++ [z]))) := le_mut d6 n6 rfl
        have l26 : Le S2 H2 S6 H6 := (l3.trans l5).trans l6
        refine ⟨acc, d6, a4, S6, ⟨fun a o h q => by rw [upd_ne (ne_of_none h hD)]; exact f6.kp a o h q, f6.fz, f6.le, fun a h => upd_some (f6.dm a h), fun a h => upd_some (f6.sd a h)⟩, (l2.trans l26).trans la, n6, _, upd_same, ?_, by rw [List.length_append]; simp; omega⟩
        rw [tk, if_pos hpy, List.map_append]
        exact ((a2.up l26).snoc hz).up la
      | false =>
        rw [if_neg (by simp)]
        obtain ⟨f6, d6, n6⟩ := fin S5 H5 R5.fr
        refine ⟨S5, f6, (l2.trans l3).trans l5, n6, acc, d6, ?_, by omega⟩
        rw [tk, if_neg (by rw [hpy]; simp), List.append_nil]
        exact a2.up (l3.trans l5)
    · rcases f.fz a h with h | h | h
      · exact f2.fz a h
      · exact .inr (.inl (f2.fresh h))
      · exact h.elim
    · rcases f.fz D z with h | h | h
      · exact n2 h
      · have h : H2 D = none := h
        rw [a1] at h; cases h
      · exact h
  · rintro H2 ⟨S2, f2, l2, n2, acc, a1, a2, a3⟩
    rw [List.length_map, List.take_length] at a2
    rw [List.length_map] at a3
    have R2 := R1.back l2 f2
    exact k _ _ _ hk S2 H2 _ R2 (l1.trans l2) ⟨D, _, rfl, a1, ⟨acc, rfl, a2, by omega⟩, n2, .inr (R1.fr.fresh hD), fun z => z.dom R1 hD⟩ hc1
end
end Mi
namespace Mi
open PySem PySem.Spec PyProof.Rows L2
open Sl (isTup sz szl)
section
variable {F : Fr} {Γ Γ' : Ctx} {S S' S2 : Fz} {σ σ2 : L2.St} {H H' H2 : Hp}
theorem FrOk.comp {I : Fz} (R : FrOk F S H) (f : FrOk (F.at S H I) S' H') (hI : ∀ a, I a → F.I a ∨ F.H0 a = none) : FrOk F S' H' := by
  refine ⟨fun a o h n => f.kp a o (R.kp a o h n) fun z => (hI a z).elim n (fun z => by rw [z] at h; cases h), fun a h => ?_, fun a h => f.le a (R.le a h), fun a h => f.dm a (R.dm a h), f.sd⟩
  rcases f.fz a h with h | h | h
  · exact R.fz a h
  · exact .inr (.inl (R.fresh h))
  · exact (hI a h).elim (fun z => .inr (.inr z)) fun z => .inr (.inl z)
theorem Rel.hI (R : Rel F Γ S σ H) : ∀ a, Held Γ σ a → F.I a ∨ F.H0 a = none := fun a ⟨i, b, O, h1, h2⟩ => by
  obtain ⟨a', o, e1, _, _, _, e5, _⟩ := R.own i b O h1
  rw [h2] at e1; cases e1
  exact e5
theorem pml_drop {α β : Type} {f : α → Res (Option β)} {xs : List α} {i : Nat} {x : α} (h : xs[i]? = some x) : pml f (xs.drop i) = (f x).bind fun r => (pml f (xs.drop (i + 1))).bind fun q => .ok (r.toList ++ q) := by
  have hi : i < xs.length := (List.getElem?_eq_some_iff.mp h).1
  rw [List.drop_eq_getElem_cons hi, (List.getElem?_eq_some_iff.mp h).2]
  rfl
theorem plc_drop {σ α β : Type} {f : σ → α → Res (Option β × σ)} {xs : List α} {i : Nat} {x : α} {s : σ} (h : xs[i]? = some x) : plc f s (xs.drop i) = (f s x).bind fun r => (plc f r.2 (xs.drop (i + 1))).bind fun q => .ok (r.1.toList ++ q.1, q.2) := by
  have hi : i < xs.length := (List.getElem?_eq_some_iff.mp h).1
  rw [List.drop_eq_getElem_cons hi, (List.getElem?_eq_some_iff.mp h).2]
  rfl
end
section
variable {ρ : Type} {A : Nat → Addr} {E : L2.St → XK} {K : PySem.W.Frag} {Γ : Ctx} {c : Res ρ} {κ : Ctx → Vo → Res ρ → Prop} {te : TE} {tt : TT} {g : TG} {w : TI} {vs : List Nat}
/-- parts that may fail, at one place -/
theorem lcU_at {α β : Type} (t : α → Pv) (u : β → Pv) (gk : GK g vs) {F : Fr} {T : Res ρ → Prop} {S : Fz} {σ : L2.St} {H : Hp} {Q : VK} (O : Ok0 A (E σ) F T) (h : ∀ Rr : It → Hp → Prop, (∀ Γ1 ps c1, (∃ (f : α → Res (Option β)) (xs : List α) (k : List β → Res ρ), ps = xs.map t ∧ c1 = (pml f xs).bind k ∧
      (∀ x, WG (valsC (wipeC Γ1 vs)) g (t x) fun Γ2 => WT A ET Γ2 tt (f x) fun Γ3 b c3 => ∃ m : Res (Option β), c3 = (if b = true then m else .ok none) ∧ (WX A ET Γ3 te m fun Γ4 V c4 => ∃ y, V = .val (u y) ∧ c4 = .ok (some y))) ∧ ∀ ys, κ Γ1 (.own (oLst K (ys.map u))) (k ys)) → ∀ S' H' J, Rel F Γ1 S' σ H' → Le S H S' H' → T c1 → ItOk F J ps S' H' → Rr J H') → w σ H Rr)
      (k : ∀ Γ' V c', κ Γ' V c' → ∀ S' H' v, Rel F Γ' S' σ H' → Le S H S' H' → V.is F Γ' σ S' H' v → T c' → Q v H') : tLc w g tt te vs σ H Q := by
  refine h _ fun Γ1 ps c1 h1 S1 H1 J R1 l1 hc1 it D hD => ?_
  obtain ⟨f, xs, kk, rfl, rfl, hb, hk⟩ := h1
  have hD0 : ¬ S1 D := R1.fr.nfz hD
  have RV := (R1.wipe vs).vals
  have hlen : xs.length ≤ sizeLine := by have := it.1; rwa [List.length_map] at this
  refine lc_it it.walk (fun i H' => ∃ S', FrOk (F.at S1 H1 fun _ => False) S' H' ∧ Le S1 H1 S' H' ∧ ¬ S' D ∧ ∃ acc ys, H' D = some (.lst acc) ∧ PsOk S' H' acc (ys.map u) ∧ acc.length ≤ i ∧ T ((pml f (xs.drop i)).bind fun q => kk (ys ++ q))) ?_ (fun i H' _ ⟨S', f, l, _⟩ => ⟨S', l, comp0 R1.fr f⟩) ?_ ?_
  · refine ⟨S1, ⟨fun a o h _ => by rw [upd_ne (ne_of_none h hD)]; exact h, fun a h => .inl h, fun a h => h, fun a h => upd_some h, fun a h => upd_some (R1.fr.sd a h)⟩, le_new hD, hD0, [], [], upd_same, trivial, Nat.le_refl _, hc1⟩
  · rintro i x H2 H3 hi ⟨S2, f2, l2, n2, acc, ys, a1, a2, a3, hc2⟩ ⟨P, hP, hal, hp⟩
    obtain ⟨y, hy, rfl⟩ := map_at hP
    have R2 := RV.into l2 f2.sd fun _ => False
    obtain ⟨R3, l3⟩ := R2.alloc hal
    rw [pml_drop hy, bind_assoc] at hc2
    have a4 : acc.length < sizeLine := by
      have h2 : i < xs.length := by simpa using hi
      omega
    refine gk.mono _ _ _ _ _ ?_ (gk.keep _ _ _ _ (hb y _ S2 (L2.wipe σ vs) H3 x (fun σ4 H4 => H4 = H3 ∧ ∃ Γ4, Rel (F.at S2 H2 fun _ => False) Γ4 S2 σ4 H4 ∧ WT A ET Γ4 tt (f y) fun Γ3 b c3 => ∃ m : Res (Option β), c3 = (if b = true then m else .ok none) ∧ (WX A ET Γ3 te m fun Γ4 V c4 => ∃ y, V = .val (u y) ∧ c4 = .ok (some y))) R3 (hp S2 l2 (comp0 R1.fr f2)) fun Γ4 h4 σ4 R4 => ⟨rfl, Γ4, R4, h4⟩))
    rintro σ4 H4 ⟨⟨k1, _⟩, rfl, Γ4, R4, h4⟩
    refine ⟨k1.trans (wipe_sub fun _ h => h), ?_⟩
    have cm : ∀ S6 H6, FrOk (F.at S2 H2 fun _ => False) S6 H6 → FrOk (F.at S1 H1 fun _ => False) S6 H6 := fun S6 H6 f => FrOk.comp (F := F.at S1 H1 fun _ => False) f2 f fun _ z => z.elim
    have fin : ∀ S6 H6, FrOk (F.at S2 H2 fun _ => False) S6 H6 → H6 D = some (.lst acc) ∧ ¬ S6 D := fun S6 H6 f => ⟨f.kp D _ a1 fun z => z, fun z => ?_⟩
    · refine h4 _ (fun m => T (m.bind fun r => ((pml f (xs.drop (i + 1))).bind fun q => .ok (r.toList ++ q)).bind fun q => kk (ys ++ q))) S2 σ4 H4 _ ⟨O.nb, fun e z S' H' f => erT A⟩ R4 hc2 fun Γ5 b c5 h5 S5 H5 R5 l5 hc5 => ?_
      obtain ⟨m, rfl, h5⟩ := h5
      cases b with
      | true =>
        rw [if_pos rfl]
        refine h5 _ (fun m => T (m.bind fun r => ((pml f (xs.drop (i + 1))).bind fun q => .ok (r.toList ++ q)).bind fun q => kk (ys ++ q))) S5 σ4 H5 _ ⟨O.nb, fun e z S' H' f => erT A⟩ R5 hc5 fun Γ6 V c6 h6 S6 H6 z R6 l6 hz hc6 => ?_
        obtain ⟨y', rfl, rfl⟩ := h6
        obtain ⟨d6, n6⟩ := fin S6 H6 R6.fr
        have f6 := cm S6 H6 R6.fr
        have la : Le S6 H6 S6 (upd H6 D (.lst (acc ++ [z]))) := le_mut d6 n6 rfl
        have l26 : Le S2 H2 S6 H6 := (l3.trans l5).trans l6
        refine ⟨acc, d6, a4, S6, ⟨fun a o h q => by rw [upd_ne (ne_of_none h hD)]; exact f6.kp a o h q, f6.fz, f6.le, fun a h => upd_some (f6.dm a h), fun a h => upd_some (f6.sd a h)⟩, (l2.trans l26).trans la, n6, _, ys ++ [y'], upd_same, ?_, by rw [List.length_append]; simp; omega, ?_⟩
        · rw [List.map_append]
          exact ((a2.up l26).snoc hz).up la
        · simpa [bind_assoc] using hc6
      | false =>
        rw [if_neg (by simp)]
        rw [if_neg (by simp)] at hc5
        obtain ⟨d6, n6⟩ := fin S5 H5 R5.fr
        refine ⟨S5, cm _ _ R5.fr, (l2.trans l3).trans l5, n6, acc, ys, d6, a2.up (l3.trans l5), by omega, ?_⟩
        simpa [bind_assoc] using hc5
    · rcases f.fz D z with h | h | h
      · exact n2 h
      · have h : H2 D = none := h
        rw [a1] at h; cases h
      · exact h
  · rintro H2 ⟨S2, f2, l2, n2, acc, ys, a1, a2, a3, hc2⟩
    rw [List.length_map] at a3
    rw [List.length_map, List.drop_length] at hc2
    have R2 := R1.back l2 f2
    refine k _ _ _ (hk ys) S2 H2 _ R2 (l1.trans l2) ⟨D, _, rfl, a1, ⟨acc, rfl, a2, by omega⟩, n2, .inr (R1.fr.fresh hD), fun z => z.dom R1 hD⟩ ?_
    simpa [pml] using hc2
/-- parts that may fail -/
theorem wx_lcU {α β : Type} (t : α → Pv) (u : β → Pv) (gk : GK g vs) (h : WI A E Γ w c fun Γ1 ps c1 => ∃ (f : α → Res (Option β)) (xs : List α) (k : List β → Res ρ), ps = xs.map t ∧ c1 = (pml f xs).bind k ∧
      (∀ x, WG (valsC (wipeC Γ1 vs)) g (t x) fun Γ2 => WT A ET Γ2 tt (f x) fun Γ3 b c3 => ∃ m : Res (Option β), c3 = (if b = true then m else .ok none) ∧ (WX A ET Γ3 te m fun Γ4 V c4 => ∃ y, V = .val (u y) ∧ c4 = .ok (some y))) ∧ ∀ ys, κ Γ1 (.own (oLst K (ys.map u))) (k ys)) : WX A E Γ (tLc w g tt te vs) c κ := fun F T S σ H Q O R hc k => lcU_at t u gk O (fun Rr hh => h F T S σ H Rr O R hc hh) k
/-- parts that change what is held: Γs by the state -/
theorem wx_lcM {μ α β : Type} (t : α → Pv) (u : β → Pv) (gk : GK g vs) (h : WI A E Γ w c fun Γ1 ps c1 => ∃ (f : μ → α → Res (Option β × μ)) (Γs : μ → Ctx) (xs : List α) (k : List β × μ → Res ρ) (s0 : μ), ps = xs.map t ∧ c1 = (plc f s0 xs).bind k ∧ Sub (wipeC Γ1 vs) (wipeC (Γs s0) vs) ∧
      (∀ s x, WG (wipeC (Γs s) vs) g (t x) fun Γ2 => WT A ET Γ2 tt (f s x) fun Γ3 b c3 => ∃ (m : Res (Option β × μ)) (s1 : μ), c3 = (if b = true then m else .ok (none, s1)) ∧ Sub (wipeC Γ3 vs) (wipeC (Γs s1) vs) ∧ (WX A ET Γ3 te m fun Γ4 V c4 => ∃ y s', V = .val (u y) ∧ c4 = .ok (some y, s') ∧ Sub (wipeC Γ4 vs) (wipeC (Γs s') vs))) ∧ ∀ q : List β × μ, κ (wipeC (Γs q.2) vs) (.own (oLst K (q.1.map u))) (k q)) : WX A E Γ (tLc w g tt te vs) c κ := fun F T S σ H Q O R hc k => by
  refine h F T S σ H _ O R hc fun Γ1 ps c1 h1 S1 H1 J R1 l1 hc1 it D hD => ?_
  obtain ⟨f, Γs, xs, kk, s0, rfl, rfl, sb, hb, hk⟩ := h1
  have hD0 : ¬ S1 D := R1.fr.nfz hD
  have hlen : xs.length ≤ sizeLine := by have := it.1; rwa [List.length_map] at this
  refine lc_it it.walk (fun i H' => ∃ S' s, Rel F (wipeC (Γs s) vs) S' (L2.wipe σ vs) H' ∧ Le S1 H1 S' H' ∧ ¬ S' D ∧ ¬ Held (wipeC (Γs s) vs) (L2.wipe σ vs) D ∧ ∃ acc ys, H' D = some (.lst acc) ∧ PsOk S' H' acc (ys.map u) ∧ acc.length ≤ i ∧ T ((plc f s (xs.drop i)).bind fun q => kk (ys ++ q.1, q.2))) ?_ (fun i H' _ ⟨S', _, R, l, _⟩ => ⟨S', l, R.fr⟩) ?_ ?_
  · have R0 := (R1.wipe vs).sub sb
    exact ⟨S1, s0, R0.new hD, le_new hD, hD0, fun z => z.dom R0 hD, [], [], upd_same, trivial, Nat.le_refl _, hc1⟩
  · rintro i x H2 H3 hi ⟨S2, s, R2, l2, n2, nh, acc, ys, a1, a2, a3, hc2⟩ ⟨P, hP, hal, hp⟩
    obtain ⟨y, hy, rfl⟩ := map_at hP
    obtain ⟨R3, l3⟩ := R2.enter.alloc hal
    rw [plc_drop hy, bind_assoc] at hc2
    have a4 : acc.length < sizeLine := by
      have h2 : i < xs.length := by simpa using hi
      omega
    refine gk.mono _ _ _ _ _ ?_ (gk.keep _ _ _ _ (hb s y _ S2 (L2.wipe σ vs) H3 x (fun σ4 H4 => H4 = H3 ∧ ∃ Γ4, Rel (F.at S2 H2 (Held (wipeC (Γs s) vs) (L2.wipe σ vs))) Γ4 S2 σ4 H4 ∧ WT A ET Γ4 tt (f s y) fun Γ3 b c3 => ∃ (m : Res (Option β × μ)) (s1 : μ), c3 = (if b = true then m else .ok (none, s1)) ∧ Sub (wipeC Γ3 vs) (wipeC (Γs s1) vs) ∧ (WX A ET Γ3 te m fun Γ4 V c4 => ∃ y s', V = .val (u y) ∧ c4 = .ok (some y, s') ∧ Sub (wipeC Γ4 vs) (wipeC (Γs s') vs))) R3 (hp S2 l2 R2.fr) fun Γ4 h4 σ4 R4 => ⟨rfl, Γ4, R4, h4⟩))
    rintro σ4 H4 ⟨⟨k1, k2⟩, rfl, Γ4, R4, h4⟩
    have k1' := k1.trans (wipe_sub fun _ h => h)
    refine ⟨k1', ?_⟩
    have fin : ∀ Γ6 S6 H6 s', Rel (F.at S2 H2 (Held (wipeC (Γs s) vs) (L2.wipe σ vs))) Γ6 S6 σ4 H6 → Sub (wipeC Γ6 vs) (wipeC (Γs s') vs) → H6 D = some (.lst acc) ∧ ¬ S6 D ∧ Rel F (wipeC (Γs s') vs) S6 (L2.wipe σ vs) H6 ∧ ¬ Held (wipeC (Γs s') vs) (L2.wipe σ vs) D := fun Γ6 S6 H6 s' R6 sb6 => by
      have d6 := R6.fr.kp D _ a1 nh
      have n6 : ¬ S6 D := fun z => by
        rcases R6.fr.fz D z with h | h | h
        · exact n2 h
        · have h : H2 D = none := h
          rw [a1] at h; cases h
        · exact nh h
      have R7 := ((R6.wipe vs).sub sb6)
      have R8 := R7.unwipe (σ2 := L2.wipe σ vs) (by rw [wipe_sub fun _ h => h, wipe_sub fun _ h => h]; exact k1') (by rw [L2.wipe_length, L2.wipe_length, k2, L2.wipe_length])
      refine ⟨d6, n6, R2.leave R8, fun ⟨i, b, O, h1, h2⟩ => ?_⟩
      obtain ⟨a', o, e1, e2, e3, e4, e5, e6⟩ := R8.own i b O h1
      rw [h2] at e1; cases e1
      rcases e5 with h | h
      · exact nh h
      · have h : H2 D = none := h
        rw [a1] at h; cases h
    refine h4 _ (fun m => T (m.bind fun r => ((plc f r.2 (xs.drop (i + 1))).bind fun q => .ok (r.1.toList ++ q.1, q.2)).bind fun q => kk (ys ++ q.1, q.2))) S2 σ4 H4 _ ⟨O.nb, fun e z S' H' f => erT A⟩ R4 hc2 fun Γ5 b c5 h5 S5 H5 R5 l5 hc5 => ?_
    obtain ⟨m, s1, rfl, sb5, h5⟩ := h5
    cases b with
    | true =>
      rw [if_pos rfl]
      refine h5 _ (fun m => T (m.bind fun r => ((plc f r.2 (xs.drop (i + 1))).bind fun q => .ok (r.1.toList ++ q.1, q.2)).bind fun q => kk (ys ++ q.1, q.2))) S5 σ4 H5 _ ⟨O.nb, fun e z S' H' f => erT A⟩ R5 hc5 fun Γ6 V c6 h6 S6 H6 z R6 l6 hz hc6 => ?_
      obtain ⟨y', s', rfl, rfl, sb6⟩ := h6
      obtain ⟨d6, n6, R7, nh7⟩ := fin Γ6 S6 H6 s' R6 sb6
      have la : Le S6 H6 S6 (upd H6 D (.lst (acc ++ [z]))) := le_mut d6 n6 rfl
      have l26 : Le S2 H2 S6 H6 := (l3.trans l5).trans l6
      refine ⟨acc, d6, a4, S6, s', ?_, (l2.trans l26).trans la, n6, nh7, _, ys ++ [y'], upd_same, ?_, by rw [List.length_append]; simp; omega, ?_⟩
      · have hD' : F.H0 D = none := R1.fr.fresh hD
        refine ⟨⟨fun a o h q => by rw [upd_ne (ne_of_none h hD')]; exact R7.fr.kp a o h q, R7.fr.fz, R7.fr.le, fun a h => upd_some (R7.fr.dm a h), fun a h => upd_some (R7.fr.sd a h)⟩, R7.len, fun i P h => ?_, fun i b O h => ?_, R7.sep⟩
        · obtain ⟨v, e1, e2⟩ := R7.val i P h
          exact ⟨v, e1, P.up la e2⟩
        · obtain ⟨a, o, e1, e2, e3, e4, e5, e6⟩ := R7.own i b O h
          exact ⟨a, o, e1, by rw [upd_ne (fun z => nh7 ⟨i, b, O, h, by rw [e1, z]⟩)]; exact e2, O.up la e3, e4, e5, e6⟩
      · rw [List.map_append]
        exact ((a2.up l26).snoc hz).up la
      · simpa [bind_assoc] using hc6
    | false =>
      rw [if_neg (by simp)]
      rw [if_neg (by simp)] at hc5
      obtain ⟨d6, n6, R7, nh7⟩ := fin Γ5 S5 H5 s1 R5 sb5
      refine ⟨S5, s1, R7, (l2.trans l3).trans l5, n6, nh7, acc, ys, d6, a2.up (l3.trans l5), by omega, ?_⟩
      simpa [bind_assoc] using hc5
  · rintro H2 ⟨S2, s, R2, l2, n2, nh, acc, ys, a1, a2, a3, hc2⟩
    rw [List.length_map] at a3
    rw [List.length_map, List.drop_length] at hc2
    have R3 := R2.unwipe (σ2 := σ) (wipe_sub fun _ h => h) (by rw [L2.wipe_length])
    refine k _ _ _ (hk (ys, s)) S2 H2 _ R3 (l1.trans l2) ⟨D, _, rfl, a1, ⟨acc, rfl, a2, by omega⟩, n2, .inr (R1.fr.fresh hD), fun ⟨i, b, O, h1, h2⟩ => nh ⟨i, b, O, h1, ?_⟩⟩ ?_
    · have : i ∉ vs := fun z => by have := wipeC_at z h1; cases this
      rw [wipe_at this]; exact h2
    · simpa [plc] using hc2
end
end Mi
namespace Mi
open PySem PySem.Spec PyProof.Rows L2
open Sl (isTup sz szl)
/-! ### what a def promises: a plain function with its arguments and its outcome -/
structure Cl where
  β : Type
  m : Res β
  V : β → Vo
  os : β → List Ow
inductive Ar | val (P : Pv) | io (O : Ow)
def ArsOk (S : Fz) (H : Hp) : List V → List Ar → Prop
  | [], [] => True
  | v :: vs, .val P :: as => P.p S H v ∧ ArsOk S H vs as
  | v :: vs, .io O :: as => (∃ a o, v = .ref a ∧ H a = some o ∧ O.w S H o ∧ ¬ S a) ∧ ArsOk S H vs as
  | _, _ => False
def ioAd : List V → List Ar → List Addr
  | .ref a :: vs, .io _ :: as => a :: ioAd vs as
  | _ :: vs, _ :: as => ioAd vs as
  | _, _ => []
def OsOk (S : Fz) (H : Hp) : List Addr → List Ow → Prop
  | [], [] => True
  | a :: as, O :: os => (∃ o, H a = some o ∧ O.w S H o ∧ ¬ S a) ∧ OsOk S H as os
  | _, _ => False
def Vo.is0 (H0 : Hp) (S : Fz) (H : Hp) : Vo → V → Prop
  | .val P, v => P.p S H v
  | .own O, v => ∃ a o, v = .ref a ∧ H a = some o ∧ O.w S H o ∧ ¬ S a ∧ H0 a = none
def spM (A : Nat → Addr) (pre : List Ar → Cl → Prop) : Sp := fun vs H Q E => ∃ S as d, pre as d ∧ ArsOk S H vs as ∧ (ioAd vs as).Nodup ∧ (∀ a, S a → H a ≠ none) ∧ d.m ≠ .bad ∧
  (∀ r, d.m = .ok r → ∀ S' H' v, FrOk ⟨S, H, fun a => a ∈ ioAd vs as, fun _ => 0⟩ S' H' → OsOk S' H' (ioAd vs as) (d.os r) → (d.V r).is0 H S' H' v → Q v H') ∧
  (∀ e, d.m = .err e → ∀ S' H', FrOk ⟨S, H, fun a => a ∈ ioAd vs as, fun _ => 0⟩ S' H' → ErH A e E H')
def ctx0 (n : Nat) : List Ar → Ctx
  | [] => List.replicate n .any
  | .val P :: as => .val P :: ctx0 (n - 1) as
  | .io O :: as => .own true O :: ctx0 (n - 1) as
def IoE (Γ : Ctx) : Nat → List Ar → List Ow → Prop
  | _, [], [] => True
  | i, .val _ :: as, os => IoE Γ (i + 1) as os
  | i, .io _ :: as, O :: os => Γ[i]? = some (.own true O) ∧ IoE Γ (i + 1) as os
  | _, _, _ => False
def retD (d : Cl) (as : List Ar) : Dl d.β where
  nx := fun Γ' c' => ∃ r, c' = .ok r ∧ d.V r = .val yNon ∧ IoE Γ' 0 as (d.os r)
  rt := fun Γ' V c' => ∃ r, c' = .ok r ∧ V = d.V r ∧ IoE Γ' 0 as (d.os r)
section
variable {S S' : Fz} {H H' : Hp}
theorem ArsOk.len : ∀ {vs : List V} {as : List Ar}, ArsOk S H vs as → vs.length = as.length
  | [], [], _ => rfl
  | [], _ :: _, h => False.elim h
  | _ :: _, [], h => False.elim h
  | _ :: _, .val P :: _, h => congrArg Nat.succ (ArsOk.len h.2)
  | _ :: _, .io P :: _, h => congrArg Nat.succ (ArsOk.len h.2)
theorem ctx0_len : ∀ {as : List Ar} {n : Nat}, as.length ≤ n → (ctx0 n as).length = n
  | [], n, _ => by simp [ctx0]
  | .val P :: as, n, h => by
    simp only [List.length_cons] at h
    rw [ctx0, List.length_cons, ctx0_len (by omega)]; omega
  | .io P :: as, n, h => by
    simp only [List.length_cons] at h
    rw [ctx0, List.length_cons, ctx0_len (by omega)]; omega
theorem ctx0_val : ∀ {as : List Ar} {vs : List V} {n i : Nat} {P : Pv}, ArsOk S H vs as → (ctx0 n as)[i]? = some (.val P) → ∃ v, vs[i]? = some v ∧ P.p S H v
  | [], vs, n, i, P, h, e => by
    rw [ctx0, List.getElem?_replicate] at e
    split at e <;> cases e
  | .val P' :: as, v :: vs, n, 0, P, h, e => by cases e; exact ⟨v, rfl, h.1⟩
  | .val P' :: as, v :: vs, n, i + 1, P, h, e => ctx0_val (as := as) (vs := vs) (i := i) h.2 e
  | .io P' :: as, v :: vs, n, 0, P, h, e => by cases e
  | .io P' :: as, v :: vs, n, i + 1, P, h, e => ctx0_val (as := as) (vs := vs) (i := i) h.2 e
theorem ctx0_own : ∀ {as : List Ar} {vs : List V} {n i : Nat} {b : Bool} {O : Ow}, ArsOk S H vs as → (ctx0 n as)[i]? = some (.own b O) → b = true ∧ ∃ a o, vs[i]? = some (.ref a) ∧ H a = some o ∧ O.w S H o ∧ ¬ S a ∧ a ∈ ioAd vs as
  | [], vs, n, i, b, O, h, e => by
    rw [ctx0, List.getElem?_replicate] at e
    split at e <;> cases e
  | .val P' :: as, v :: vs, n, 0, b, O, h, e => by cases e
  | .val P' :: as, v :: vs, n, i + 1, b, O, h, e => by
    obtain ⟨h0, a, o, h1, h2, h3, h4, h5⟩ := ctx0_own (as := as) (vs := vs) (i := i) h.2 e
    exact ⟨h0, a, o, h1, h2, h3, h4, by cases v <;> exact h5⟩
  | .io O' :: as, v :: vs, n, 0, b, O, h, e => by
    cases e
    obtain ⟨⟨a, o, rfl, h1, h2, h3⟩, _⟩ := h
    exact ⟨rfl, a, o, rfl, h1, h2, h3, List.mem_cons_self ..⟩
  | .io O' :: as, v :: vs, n, i + 1, b, O, h, e => by
    obtain ⟨h0, a, o, h1, h2, h3, h4, h5⟩ := ctx0_own (as := as) (vs := vs) (i := i) h.2 e
    refine ⟨h0, a, o, h1, h2, h3, h4, ?_⟩
    cases v <;> first | exact List.mem_cons_of_mem _ h5 | exact h5
theorem ctx0_sep : ∀ {as : List Ar} {vs : List V} {n i j : Nat} {b b' : Bool} {O O' : Ow} {a : Addr}, ArsOk S H vs as → (ioAd vs as).Nodup → (ctx0 n as)[i]? = some (.own b O) → (ctx0 n as)[j]? = some (.own b' O') → vs[i]? = some (.ref a) → vs[j]? = some (.ref a) → i = j
  | [], vs, n, i, j, b, b', O, O', a, h, nd, e1, e2, e3, e4 => by
    rw [ctx0, List.getElem?_replicate] at e1
    split at e1 <;> cases e1
  | .val P :: as, v :: vs, n, 0, j, b, b', O, O', a, h, nd, e1, e2, e3, e4 => by cases e1
  | .val P :: as, v :: vs, n, i + 1, 0, b, b', O, O', a, h, nd, e1, e2, e3, e4 => by cases e2
  | .val P :: as, v :: vs, n, i + 1, j + 1, b, b', O, O', a, h, nd, e1, e2, e3, e4 => by
    rw [ctx0_sep (as := as) (vs := vs) (i := i) (j := j) h.2 (by cases v <;> exact nd) e1 e2 e3 e4]
  | .io P :: as, v :: vs, n, 0, 0, b, b', O, O', a, h, nd, e1, e2, e3, e4 => rfl
  | .io P :: as, v :: vs, n, 0, j + 1, b, b', O, O', a, h, nd, e1, e2, e3, e4 => by
    cases e3
    obtain ⟨_, a', o, h1, _, _, _, h5⟩ := ctx0_own (as := as) (vs := vs) (i := j) h.2 e2
    have e4 : vs[j]? = some (.ref a) := e4
    rw [e4] at h1; cases h1
    exact absurd h5 (List.nodup_cons.mp nd).1
  | .io P :: as, v :: vs, n, i + 1, 0, b, b', O, O', a, h, nd, e1, e2, e3, e4 => by
    cases e4
    obtain ⟨_, a', o, h1, _, _, _, h5⟩ := ctx0_own (as := as) (vs := vs) (i := i) h.2 e1
    have e3 : vs[i]? = some (.ref a) := e3
    rw [e3] at h1; cases h1
    exact absurd h5 (List.nodup_cons.mp nd).1
  | .io P :: as, v :: vs, n, i + 1, j + 1, b, b', O, O', a, h, nd, e1, e2, e3, e4 => by
    obtain ⟨⟨a', o, rfl, _⟩, h2⟩ := h
    rw [ctx0_sep (as := as) (vs := vs) (i := i) (j := j) h2 (List.nodup_cons.mp nd).2 e1 e2 e3 e4]
/-- the addresses by slot -/
def adOf (vs : List V) (i : Nat) : Addr := match vs[i]? with
  | some (.ref a) => a
  | _ => 0
theorem os_of {F : Fr} {Γ : Ctx} {σ : L2.St} {H0 : Hp} {S0 : Fz} (R : Rel F Γ S' σ H') : ∀ {as : List Ar} {vs : List V} {os : List Ow} {i : Nat}, ArsOk S0 H0 vs as → (∀ j, F.ad (i + j) = adOf vs j) → IoE Γ i as os → OsOk S' H' (ioAd vs as) os
  | [], [], [], _, _, _, _ => trivial
  | [], [], _ :: _, _, _, _, h => False.elim h
  | .val P :: as, v :: vs, os, i, h, ad, k => by
    have : ioAd (v :: vs) (.val P :: as) = ioAd vs as := by cases v <;> rfl
    rw [this]
    exact os_of R (as := as) (vs := vs) (i := i + 1) h.2 (fun j => by have := ad (j + 1); rw [show i + 1 + j = i + (j + 1) by omega, this]; rfl) k
  | .io O :: as, v :: vs, [], i, h, ad, k => False.elim k
  | .io O :: as, v :: vs, O' :: os, i, h, ad, k => by
    obtain ⟨⟨a, o, rfl, h1, h2, h3⟩, h4⟩ := h
    obtain ⟨a', o', e1, e2, e3, e4, e5, e6⟩ := R.own i true O' k.1
    have : a' = a := (e6 rfl).trans (ad 0)
    subst this
    exact ⟨⟨o', e2, e3, e4⟩, os_of R (as := as) (vs := vs) (i := i + 1) h4 (fun j => by have := ad (j + 1); rw [show i + 1 + j = i + (j + 1) by omega, this]; rfl) k.2⟩
end
theorem held_io {F : Fr} {Γ : Ctx} {σ : L2.St} {S' : Fz} {H' H0 : Hp} {S0 : Fz} {a : Addr} (R : Rel F Γ S' σ H') : ∀ {as : List Ar} {vs : List V} {os : List Ow} {i : Nat}, ArsOk S0 H0 vs as → (∀ j, F.ad (i + j) = adOf vs j) → IoE Γ i as os → a ∈ ioAd vs as → Held Γ σ a
  | [], [], _, _, _, _, _, m => by cases m
  | .val P :: as, v :: vs, os, i, h, ad, k, m => by
    have : ioAd (v :: vs) (.val P :: as) = ioAd vs as := by cases v <;> rfl
    rw [this] at m
    exact held_io R (as := as) (vs := vs) (i := i + 1) h.2 (fun j => by have := ad (j + 1); rw [show i + 1 + j = i + (j + 1) by omega, this]; rfl) k m
  | .io O :: as, v :: vs, [], i, h, ad, k, m => False.elim k
  | .io O :: as, v :: vs, O' :: os, i, h, ad, k, m => by
    obtain ⟨⟨b, o, rfl, h1, h2, h3⟩, h4⟩ := h
    rcases List.mem_cons.mp m with e | m
    · subst e
      obtain ⟨a', o', e1, e2, e3, e4, e5, e6⟩ := R.own i true O' k.1
      have : a' = a := (e6 rfl).trans (ad 0)
      subst this
      exact ⟨i, true, O', k.1, e1⟩
    · exact held_io R (as := as) (vs := vs) (i := i + 1) h4 (fun j => by have := ad (j + 1); rw [show i + 1 + j = i + (j + 1) by omega, this]; rfl) k.2 m
section
variable {A : Nat → Addr} {E : XK} {pre : List Ar → Cl → Prop} {vs : List V} {H : Hp} {Q : VK} {N : List Str} {t : TS}
theorem fn_core {S : Fz} {as : List Ar} {d : Cl} (T : Res d.β → Prop) {c : Res d.β} (ho : Ok0 A E ⟨S, H, fun a => a ∈ ioAd vs as, adOf vs⟩ T) (hT : ∀ r, T (.ok r) → d.m = .ok r) (hc : T c) (h2 : ArsOk S H vs as) (h3 : (ioAd vs as).Nodup) (h4 : ∀ a, S a → H a ≠ none)
    (h6 : ∀ r, d.m = .ok r → ∀ S' H' v, FrOk ⟨S, H, fun a => a ∈ ioAd vs as, fun _ => 0⟩ S' H' → OsOk S' H' (ioAd vs as) (d.os r) → (d.V r).is0 H S' H' v → Q v H') (hl : vs.length ≤ N.length) (hw : WS A (fun _ => E) (ctx0 N.length as) t c (retD d as)) :
    t { nx := fun _ H' => Q .non H', rt := Q } (start N vs) H := by
  have hl' : as.length ≤ N.length := h2.len ▸ hl
  have sv : ∀ (i : Nat) (v : V), vs[i]? = some v → (start N vs)[i]? = some (some v) := fun i v e => by
    rw [L2.start, List.getElem?_append_left (by rw [List.length_map]; exact (List.getElem?_eq_some_iff.mp e).1), List.getElem?_map, e]; rfl
  have sv' : ∀ (i : Nat) (a : Addr), (start N vs)[i]? = some (some (.ref a)) → vs[i]? = some (.ref a) := fun i a e => by
    rw [L2.start] at e
    by_cases z : i < vs.length
    · rw [List.getElem?_append_left (by rw [List.length_map]; exact z), List.getElem?_map] at e
      obtain ⟨x, h1, h2⟩ := Option.map_eq_some_iff.mp e
      cases h2; exact h1
    · rw [List.getElem?_append_right (by rw [List.length_map]; omega), List.getElem?_replicate] at e
      split at e <;> cases e
  have R0 : Rel ⟨S, H, fun a => a ∈ ioAd vs as, adOf vs⟩ (ctx0 N.length as) S (start N vs) H := by
    refine ⟨⟨fun _ _ h _ => h, fun _ h => .inl h, fun _ h => h, fun _ h => h, h4⟩, ?_, fun i P e => ?_, fun i b O e => ?_, fun i j b b' O O' a e1 e2 e3 e4 => ?_⟩
    · rw [ctx0_len hl', L2.start, List.length_append, List.length_map, List.length_replicate]; omega
    · obtain ⟨v, h1, h2⟩ := ctx0_val h2 e
      exact ⟨v, sv i v h1, h2⟩
    · obtain ⟨_, a, o, q1, q2, q3, q4, q5⟩ := ctx0_own h2 e
      exact ⟨a, o, sv i _ q1, q2, q3, q4, .inl q5, fun _ => by show a = adOf vs i; unfold adOf; rw [q1]⟩
    · exact ctx0_sep h2 h3 e1 e2 (sv' i a e3) (sv' j a e4)
  have fin : ∀ Γ' S' σ' H' r, Rel ⟨S, H, fun a => a ∈ ioAd vs as, adOf vs⟩ Γ' S' σ' H' → T (.ok r) → IoE Γ' 0 as (d.os r) → ∀ v, (d.V r).is0 H S' H' v → Q v H' := fun Γ' S' σ' H' r R hr hi v hv =>
    h6 r (hT r hr) S' H' v ⟨R.fr.kp, R.fr.fz, R.fr.le, R.fr.dm, R.fr.sd⟩ (os_of R h2 (fun j => by rw [Nat.zero_add]) hi) hv
  refine hw _ T S _ H _ (fun _ => ho) R0 hc ⟨?_, ?_, fun _ _ z => z.elim, fun _ _ z => z.elim⟩
  · rintro Γ' c' ⟨r, rfl, hv, hi⟩ S' σ' H' R l hr
    exact fin Γ' S' σ' H' r R hr hi _ (by rw [hv]; exact rfl)
  · rintro Γ' V c' ⟨r, rfl, rfl, hi⟩ S' σ' H' v R l hv hr
    refine fin Γ' S' σ' H' r R hr hi _ ?_
    cases e : d.V r with
    | val P => rw [e] at hv; exact hv
    | own O =>
      rw [e] at hv
      obtain ⟨a, o, q1, q2, q3, q4, q5, q6⟩ := hv
      refine ⟨a, o, q1, q2, q3, q4, q5.resolve_left fun z => q6 ?_⟩
      exact held_io R h2 (i := 0) (fun j => by rw [Nat.zero_add]) hi z
/-- the body does what the plain function does -/
theorem fn_run (h : spM A pre vs H Q E) (hl : ∀ as d, pre as d → as.length ≤ N.length) (hb : ∀ as d, pre as d → ∃ c, d.m = c ∧ WS A (fun _ => E) (ctx0 N.length as) t c (retD d as)) : t { nx := fun _ H' => Q .non H', rt := Q } (start N vs) H := by
  obtain ⟨S, as, d, h1, h2, h3, h4, h5, h6, h7⟩ := h
  obtain ⟨c, e, hw⟩ := hb as d h1
  exact fn_core (fun c => d.m = c) ⟨h5, fun e z S' H' f => h7 e z S' H' ⟨f.kp, f.fz, f.le, f.dm, f.sd⟩⟩ (fun r z => z) e h2 h3 h4 h6 (h2.len ▸ hl as d h1) hw
/-- .. a def that lets nothing out -/
theorem fn_run0 (h : spM A pre vs H Q E) (hl : ∀ as d, pre as d → as.length ≤ N.length) (hb : ∀ as d, pre as d → ∃ c, d.m = Res.noerr c ∧ WS A (fun _ => E) (ctx0 N.length as) t c (retD d as)) : t { nx := fun _ H' => Q .non H', rt := Q } (start N vs) H := by
  obtain ⟨S, as, d, h1, h2, h3, h4, h5, h6, h7⟩ := h
  obtain ⟨c, e, hw⟩ := hb as d h1
  refine fn_core (fun c => d.m = Res.noerr c) ⟨fun z => h5 z, fun e z S' H' f => absurd z h5⟩ (fun r z => z) e h2 h3 h4 h6 (h2.len ▸ hl as d h1) hw
end
/-! ### the call -/
def setO (Γ : Ctx) (i : Nat) (O : Ow) : Ctx := match Γ[i]? with
  | some (.own b _) => Γ.set i (.own b O)
  | _ => Γ
def updC : Ctx → List Ag → List Ow → Ctx
  | Γ, .val _ :: gs, os => updC Γ gs os
  | Γ, .io i :: gs, O :: os => updC (setO Γ i O) gs os
  | Γ, _, _ => Γ
def MatchA (Γ : Ctx) : List Ag → List Ar → Prop
  | [], [] => True
  | .val P :: gs, .val P' :: as => P = P' ∧ MatchA Γ gs as
  | .io i :: gs, .io O :: as => (∃ b, Γ[i]? = some (.own b O)) ∧ MatchA Γ gs as
  | _, _ => False
def ioIx : List Ag → List Nat
  | [] => []
  | .val _ :: gs => ioIx gs
  | .io i :: gs => i :: ioIx gs
section
variable {F : Fr} {Γ : Ctx} {S S' : Fz} {σ : L2.St} {H H' : Hp}
/-- the arguments, for the callee -/
theorem ars_of (R : Rel F Γ S σ H) : ∀ {vs : List V} {gs : List Ag} {as : List Ar}, AgsOk σ S H vs gs → MatchA Γ gs as → ArsOk S H vs as ∧ (ioAd vs as).map (fun a => some (some (V.ref a))) = (ioIx gs).map fun i => σ[i]?
  | [], [], [], _, _ => ⟨trivial, rfl⟩
  | [], [], _ :: _, _, h => False.elim h
  | [], _ :: _, _, h, _ => False.elim h
  | _ :: _, [], _, h, _ => False.elim h
  | v :: vs, .val P :: gs, [], _, h => False.elim h
  | v :: vs, .io i :: gs, [], _, h => False.elim h
  | v :: vs, .val P :: gs, .io _ :: as, _, h => False.elim h
  | v :: vs, .io i :: gs, .val _ :: as, _, h => False.elim h
  | v :: vs, .val P :: gs, .val P' :: as, h, m => by
    obtain ⟨q1, q2⟩ := ars_of R (vs := vs) (gs := gs) (as := as) h.2 m.2
    have : ioAd (v :: vs) (.val P' :: as) = ioAd vs as := by cases v <;> rfl
    rw [this]
    exact ⟨⟨m.1 ▸ h.1, q1⟩, q2⟩
  | v :: vs, .io i :: gs, .io O :: as, h, m => by
    obtain ⟨q1, q2⟩ := ars_of R (vs := vs) (gs := gs) (as := as) h.2 m.2
    obtain ⟨b, hb⟩ := m.1
    obtain ⟨a, o, e1, e2, e3, e4, _⟩ := R.own i b O hb
    have e : σ[i]? = some (some v) := h.1
    rw [e] at e1; cases e1
    refine ⟨⟨⟨a, o, rfl, e2, e3, e4⟩, q1⟩, ?_⟩
    show some (some (V.ref a)) :: _ = σ[i]? :: _
    rw [e]; exact congrArg _ q2
theorem setO_at {i j : Nat} {O : Ow} {x : Slt} (h : (setO Γ i O)[j]? = some x) : (Γ[j]? = some x ∧ (j = i → ∀ b O', x ≠ .own b O')) ∨ (j = i ∧ ∃ b O0, x = .own b O ∧ Γ[i]? = some (.own b O0)) := by
  unfold setO at h
  split at h
  · next b O0 e =>
    rcases set_at h with ⟨rfl, rfl⟩ | ⟨n, h⟩
    · exact .inr ⟨rfl, b, O0, rfl, e⟩
    · exact .inl ⟨h, fun z => absurd z n⟩
  · next hn =>
    refine .inl ⟨h, fun z b O' q => ?_⟩
    subst z; subst q
    exact hn b O' h
theorem setO_len {i : Nat} {O : Ow} : (setO Γ i O).length = Γ.length := by
  unfold setO
  split
  · rw [List.length_set]
  · rfl
theorem updC_at : ∀ {gs : List Ag} {Γ : Ctx} {os : List Ow} {j : Nat} {x : Slt}, (updC Γ gs os)[j]? = some x → (Γ[j]? = some x ∧ (∀ b O', x = .own b O' → os.length = (ioIx gs).length → j ∉ ioIx gs)) ∨ (∃ b O0 O, x = .own b O ∧ Γ[j]? = some (.own b O0) ∧ ∃ k : Nat, (ioIx gs)[k]? = some j ∧ os[k]? = some O)
  | [], Γ, os, j, x, h => .inl ⟨h, fun _ _ _ _ => List.not_mem_nil⟩
  | .val _ :: gs, Γ, os, j, x, h => updC_at (gs := gs) h
  | .io i :: gs, Γ, [], j, x, h => .inl ⟨h, fun _ _ _ z => by simp [ioIx] at z⟩
  | .io i :: gs, Γ, O :: os, j, x, h => by
    rcases updC_at (gs := gs) (Γ := setO Γ i O) h with ⟨h1, h2⟩ | ⟨b, O0, O', rfl, h2, k, h3, h4⟩
    · rcases setO_at h1 with ⟨h3, h4⟩ | ⟨rfl, b, O0, rfl, h3⟩
      · refine .inl ⟨h3, fun b O' e z => ?_⟩
        simp only [ioIx, List.length_cons, Nat.succ.injEq] at z
        simp only [ioIx, List.mem_cons, not_or]
        exact ⟨fun q => h4 q b O' e, h2 b O' e (by omega)⟩
      · exact .inr ⟨b, O0, O, rfl, h3, 0, rfl, rfl⟩
    · rcases setO_at h2 with ⟨h5, _⟩ | ⟨rfl, b', O1, e, h5⟩
      · exact .inr ⟨b, O0, O', rfl, h5, k + 1, h3, h4⟩
      · cases e; exact .inr ⟨b, O1, O', rfl, h5, k + 1, h3, h4⟩
theorem updC_len : ∀ {gs : List Ag} {Γ : Ctx} {os : List Ow}, (updC Γ gs os).length = Γ.length
  | [], _, _ => rfl
  | .val _ :: gs, Γ, os => updC_len (gs := gs)
  | .io i :: gs, Γ, [] => rfl
  | .io i :: gs, Γ, O :: os => by rw [updC, updC_len (gs := gs), setO_len]
theorem osOk_at : ∀ {as : List Addr} {os : List Ow} {k : Nat} {O : Ow}, OsOk S H as os → os[k]? = some O → ∃ a o, as[k]? = some a ∧ H a = some o ∧ O.w S H o ∧ ¬ S a
  | [], [], k, O, h, e => by simp at e
  | [], _ :: _, _, _, h, _ => False.elim h
  | _ :: _, [], _, _, h, _ => False.elim h
  | a :: as, O' :: os, 0, O, h, e => by cases e; obtain ⟨o, h1⟩ := h.1; exact ⟨a, o, rfl, h1⟩
  | a :: as, O' :: os, k + 1, O, h, e => osOk_at (as := as) (os := os) (k := k) h.2 e
theorem osOk_len : ∀ {as : List Addr} {os : List Ow}, OsOk S H as os → as.length = os.length
  | [], [], h => rfl
  | [], _ :: _, h => False.elim h
  | _ :: _, [], h => False.elim h
  | a :: as, O' :: os, h => congrArg Nat.succ (osOk_len h.2)
theorem Rel.called (R : Rel F Γ S σ H) {gs : List Ag} {os : List Ow} {ads : List Addr} (hio : ads.map (fun a => some (some (V.ref a))) = (ioIx gs).map fun i => σ[i]?) (hown : ∀ i ∈ ioIx gs, ∃ b O, Γ[i]? = some (.own b O)) {ad : Nat → Addr} (f : FrOk ⟨S, H, fun a => a ∈ ads, ad⟩ S' H') (ho : OsOk S' H' ads os) :
    Le S H S' H' ∧ Rel F (updC Γ gs os) S' σ H' := by
  have hads : ∀ (k : Nat) (i : Nat), (ioIx gs)[k]? = some i → ∃ a, ads[k]? = some a ∧ σ[i]? = some (some (.ref a)) := fun k i e => by
    have q := congrArg (fun l => l[k]?) hio
    simp only [List.getElem?_map, e, Option.map_some] at q
    obtain ⟨a, h1, h2⟩ := Option.map_eq_some_iff.mp q
    exact ⟨a, h1, h2.symm⟩
  have hads' : ∀ a ∈ ads, ∃ i ∈ ioIx gs, σ[i]? = some (some (.ref a)) := fun a h => by
    obtain ⟨k, hk⟩ := List.mem_iff_getElem?.mp h
    have q := congrArg (fun l => l[k]?) hio
    simp only [List.getElem?_map, hk, Option.map_some] at q
    obtain ⟨i, h1, h2⟩ := Option.map_eq_some_iff.mp q.symm
    exact ⟨i, List.mem_iff_getElem?.mpr ⟨k, h1⟩, h2⟩
  have held : ∀ a ∈ ads, Held Γ σ a := fun a h => by
    obtain ⟨i, h1, h2⟩ := hads' a h
    obtain ⟨b, O, h3⟩ := hown i h1
    exact ⟨i, b, O, h3, h2⟩
  have hlen : os.length = (ioIx gs).length := by
    rw [← osOk_len ho]
    have := congrArg List.length hio
    simpa using this
  have l : Le S H S' H' := .ex f.le fun a o h k => f.kp a o h fun z => by
    obtain ⟨i, b, O, h1, h2⟩ := held a z
    obtain ⟨a', o', e1, e2, e3, e4, _⟩ := R.own i b O h1
    rw [h2] at e1; cases e1
    rw [h] at e2; cases e2
    rcases k with k | k
    · exact e4 k
    · rw [O.nt e3] at k; cases k
  refine ⟨l, ⟨R.fr.comp (S' := S') (H' := H') (I := fun a => a ∈ ads) ⟨f.kp, f.fz, f.le, f.dm, f.sd⟩ fun a h => R.hI a (held a h), by rw [updC_len]; exact R.len, fun i P e => ?_, fun i b O e => ?_, fun i j b b' O O' a e1 e2 => ?_⟩⟩
  · rcases updC_at e with ⟨h1, _⟩ | ⟨b, O0, O, h, _⟩
    · obtain ⟨v, h2, h3⟩ := R.val i P h1
      exact ⟨v, h2, P.up l h3⟩
    · cases h
  · rcases updC_at e with ⟨h1, h2⟩ | ⟨b', O0, O', h, h1, k, h2, h3⟩
    · obtain ⟨a, o, e1, e2, e3, e4, e5, e6⟩ := R.own i b O h1
      have na : a ∉ ads := fun z => by
        obtain ⟨j, h3, h4⟩ := hads' a z
        obtain ⟨b2, O2, h5⟩ := hown j h3
        have := R.sep i j b b2 O O2 a h1 h5 e1 h4
        subst this
        exact h2 b O rfl hlen h3
      exact ⟨a, o, e1, f.kp a o e2 na, O.up l e3, fun z => by
        rcases f.fz a z with z | z | z
        · exact e4 z
        · have z : H a = none := z
          rw [e2] at z; cases z
        · exact na z, e5, e6⟩
    · cases h
      obtain ⟨a, o, e1, e2, e3, e4, e5, e6⟩ := R.own i b O0 h1
      obtain ⟨a', q1, q2⟩ := hads k i h2
      rw [e1] at q2; cases q2
      obtain ⟨a2, o2, w1, w2, w3, w4⟩ := osOk_at ho h3
      rw [q1] at w1; cases w1
      exact ⟨a, o2, e1, w2, w3, w4, e5, e6⟩
  · have q : ∀ (i : Nat) (b : Bool) (O : Ow), (updC Γ gs os)[i]? = some (.own b O) → ∃ b O, Γ[i]? = some (Slt.own b O) := fun i b O e => by
      rcases updC_at e with ⟨h1, h2⟩ | ⟨b', O0, O', h, h1, _⟩
      · exact ⟨_, _, h1⟩
      · exact ⟨_, _, h1⟩
    obtain ⟨_, _, q1⟩ := q i b O e1
    obtain ⟨_, _, q2⟩ := q j b' O' e2
    exact R.sep i j _ _ _ _ a q1 q2
end
theorem match_own {Γ : Ctx} : ∀ {gs : List Ag} {as : List Ar}, MatchA Γ gs as → ∀ i ∈ ioIx gs, ∃ b O, Γ[i]? = some (.own b O)
  | [], [], _, i, h => absurd h List.not_mem_nil
  | [], _ :: _, h, _, _ => False.elim h
  | .val P :: gs, [], h, _, _ => False.elim h
  | .io P :: gs, [], h, _, _ => False.elim h
  | .val P :: gs, .io _ :: as, h, _, _ => False.elim h
  | .io P :: gs, .val _ :: as, h, _, _ => False.elim h
  | .val P :: gs, .val _ :: as, h, i, m => match_own (gs := gs) h.2 i m
  | .io j :: gs, .io O :: as, h, i, m => by
    rcases List.mem_cons.mp m with e | m
    · obtain ⟨b, hb⟩ := h.1
      subst e
      exact ⟨b, O, hb⟩
    · exact match_own (gs := gs) h.2 i m
section
variable {ρ : Type} {A : Nat → Addr} {E E' : L2.St → XK} {K : PySem.W.Frag} {Γ : Ctx} {c : Res ρ} {κ : Ctx → Vo → Res ρ → Prop} {pre : List Ar → Cl → Prop} {gs : List Ag} {tr : TA}
/-- how many arguments -/
theorem spM_len {vs : List V} {H : Hp} {Q : VK} {E : XK} {n : Nat} (h : spM A pre vs H Q E) (hn : ∀ as d, pre as d → as.length = n) : vs.length = n := by
  obtain ⟨S, as, d, h1, h2, _⟩ := h
  rw [h2.len, hn as d h1]
/-- E': what the rule of the call wants of an exception: the def's own, or nothing at all where the callee lets nothing out -/
theorem rc_call (as : List Ar) (d : Cl) (k : d.β → Res ρ) (hp : pre as d) (hm : MatchA Γ gs as) (hn : (ioIx gs).Nodup) (hc : c = d.m.bind k) (he : E' = E ∨ ∀ e, d.m ≠ .err e) (h : ∀ r, d.m = .ok r → κ (updC Γ gs (d.os r)) (d.V r) (k r)) : RC A E (fun σ vs H Q => spM A pre vs H Q (E' σ)) gs Γ c κ := fun F T S σ H vs Q O R hT hg kk => by
  subst hc
  obtain ⟨h1, h2⟩ := ars_of R hg hm
  have h3 : (ioAd vs as).Nodup := by
    have inj : ∀ i ∈ ioIx gs, ∀ j ∈ ioIx gs, σ[i]? = σ[j]? → i = j := fun i hi j hj e => by
      obtain ⟨b, O1, q1⟩ := match_own hm i hi
      obtain ⟨b', O2, q2⟩ := match_own hm j hj
      obtain ⟨a, o, e1, _⟩ := R.own i b O1 q1
      exact R.sep i j b b' O1 O2 a q1 q2 e1 (e ▸ e1)
    have nd : ((ioIx gs).map fun i => σ[i]?).Nodup := by
      refine List.Pairwise.map _ (R := fun i j => i ∈ ioIx gs ∧ j ∈ ioIx gs ∧ i ≠ j) (fun i j q e => q.2.2 (inj i q.1 j q.2.1 e)) ?_
      exact hn.imp_of_mem fun hi hj n => ⟨hi, hj, n⟩
    rw [← h2] at nd
    exact List.Pairwise.of_map (S := (· ≠ ·)) _ (fun a b q e => q (by rw [e])) nd
  have nb : d.m ≠ .bad := fun z => by rw [z] at hT; exact O.nb hT
  refine ⟨S, as, d, hp, h1, h3, R.fr.sd, nb, fun r hr S' H' v f ho hv => ?_, fun e z S' H' f => ?_⟩
  · obtain ⟨l, R'⟩ := R.called h2 (match_own hm) f ho
    refine kk _ _ _ (h r hr) S' H' v R' l ?_ (by rw [hr] at hT; exact hT)
    cases ev : d.V r with
    | val P => rw [ev] at hv; exact hv
    | own O' =>
      rw [ev] at hv
      obtain ⟨a, o, q1, q2, q3, q4, q5⟩ := hv
      refine ⟨a, o, q1, q2, q3, q4, .inr (R.fr.fresh q5), fun ⟨i, b, O2, w1, w2⟩ => ?_⟩
      have : ∃ b O, Γ[i]? = some (Slt.own b O) := by
        rcases updC_at w1 with ⟨w, _⟩ | ⟨b', O0, O3, w, w', _⟩
        · exact ⟨_, _, w⟩
        · exact ⟨_, _, w'⟩
      obtain ⟨b3, O3, w3⟩ := this
      obtain ⟨a', o', e1, e2, _⟩ := R.own i b3 O3 w3
      rw [w2] at e1; cases e1
      rw [q5] at e2; cases e2
  · rcases he with rfl | he
    · exact O.er e (by rw [z] at hT; exact hT) S' H' (R.fr.comp (I := fun a => a ∈ ioAd vs as) ⟨f.kp, f.fz, f.le, f.dm, f.sd⟩ fun a h => by
        obtain ⟨k, hk⟩ := List.mem_iff_getElem?.mp h
        have q := congrArg (fun l => l[k]?) h2
        simp only [List.getElem?_map, hk, Option.map_some] at q
        obtain ⟨i, w1, w2⟩ := Option.map_eq_some_iff.mp q.symm
        obtain ⟨b, O, w3⟩ := match_own hm i (List.mem_iff_getElem?.mpr ⟨k, w1⟩)
        exact R.hI a ⟨i, b, O, w3, w2⟩)
    · exact absurd z (he e)
theorem noerr_ne {α : Type} {m : Res α} {e : Er} (h : m.noerr = .err e) : False := by cases m <;> cases h
/-- .. of a def that is a plain function -/
theorem rc_callP (as : List Ar) (d : Cl) (v : d.β) (hp : pre as d) (hm : MatchA Γ gs as) (hn : (ioIx gs).Nodup) (hv : d.m = .ok v) (h : κ (updC Γ gs (d.os v)) (d.V v) c) : RC A E (fun σ vs H Q => spM A pre vs H Q (E' σ)) gs Γ c κ :=
  rc_call as d (fun _ => c) hp hm hn (by rw [hv]; rfl) (.inr fun e z => by rw [hv] at z; cases z) fun r hr => by rw [hv] at hr; cases hr; exact h
theorem wx_call {E1 : XK} (h : WA A E Γ tr c fun Γ1 gs c1 => RC A E (fun _ vs H Q => spM A pre vs H Q E1) gs Γ1 c1 κ) : WX A E Γ (tCall (spM A pre) [] E1 tr) c κ := fun F T S σ H Q O R hc k => by
  refine h F T S σ H _ O R hc fun Γ1 gs c1 h1 S1 H1 xs R1 l1 p1 hc1 => ?_
  show spM A pre (xs ++ []) H1 Q E1
  rw [List.append_nil]
  exact h1 F T S1 σ H1 xs Q O R1 hc1 p1 fun Γ' V c' q S' H' v R' l => k Γ' V c' q S' H' v R' (l1.trans l)
end
end Mi
namespace Mi
open PySem PySem.Spec PyProof.Rows L2
open Sl (isTup sz szl slt)
/-! ### plain operations -/
def pidx {α : Type} (xs : List α) (i : Int) : Res α := match atI xs i with
  | some x => .ok x
  | none => .bad
def pcut {α : Type} (xs : List α) (lo hi : Option Int) : List α := (xs.drop (HT.sIx xs.length 0 lo)).take (HT.sIx xs.length xs.length hi - HT.sIx xs.length 0 lo)
def pmod (x y : Int) : Res Int := if 0 < y then .ok (x % y) else .bad
def pdiv (x y : Int) : Res Int := if 0 < y ∧ y < 1073741824 then .ok (x / y) else .bad
def pmul (x y : Int) : Res Int := if (-(2 ^ 64) < x ∧ x < 2 ^ 64) ∨ (-(2 ^ 64) < y ∧ y < 2 ^ 64) then .ok (x * y) else .bad
def pcat {α : Type} (xs ys : List α) : Res (List α) := if xs.length + ys.length ≤ 100000 then .ok (xs ++ ys) else .bad
def pset {α : Type} (xs : List α) (i : Int) (y : α) : Res (List α) := match ixN xs.length i with
  | some j => .ok (xs.set j y)
  | none => .bad
def psnoc {α : Type} (xs : List α) (y : α) : Res (List α) := if xs.length < 100000 then .ok (xs ++ [y]) else .bad
/-! dicts -/
def dlook {κ α : Type} [DecidableEq κ] (d : List (κ × α)) (k : κ) : Option α := (d.find? fun kv => decide (kv.1 = k)).map (·.2)
def dput {κ α : Type} [DecidableEq κ] (d : List (κ × α)) (k : κ) (v : α) : List (κ × α) :=
  if (d.any fun kv => decide (kv.1 = k)) = true then d.map (fun kv => if kv.1 = k then (kv.1, v) else kv) else d ++ [(k, v)]
def pdget {κ α : Type} [DecidableEq κ] (d : List (κ × α)) (k : κ) : Res α := match dlook d k with
  | some x => .ok x
  | none => .bad
def pdput {κ α : Type} [DecidableEq κ] (d : List (κ × α)) (k : κ) (v : α) : Res (List (κ × α)) := if d.length < 100000 then .ok (dput d k v) else .bad
def dhas {κ α : Type} [DecidableEq κ] (d : List (κ × α)) (k : κ) : Bool := (dlook d k).isSome
def dgetD {κ α : Type} [DecidableEq κ] (d : List (κ × α)) (k : κ) (x : α) : α := (dlook d k).getD x
def dkeys {κ α : Type} (d : List (κ × α)) : List κ := d.map (·.1)
/-! sorted texts -/
def sortS (xs : List Str) : List Str := xs.mergeSort fun a b => !decide (slt b a)
def psortS (xs : List Str) : Res (List Str) := if xs.length < 64 then .ok (sortS xs) else .bad
theorem perm_sorted_eq {α : Type} {r : α → α → Prop} (anti : ∀ a b, r a b → r b a → a = b) : ∀ {l m : List α}, l.Perm m → l.Pairwise r → m.Pairwise r → l = m
  | [], m, p, _, _ => (List.nil_perm.mp p).symm
  | x :: l, [], p, _, _ => by have := p.length_eq; simp at this
  | x :: l, y :: m, p, h1, h2 => by
    have a1 := List.pairwise_cons.mp h1
    have a2 := List.pairwise_cons.mp h2
    have e : x = y := by
      have m1 : x ∈ y :: m := p.mem_iff.mp (List.mem_cons_self ..)
      have m2 : y ∈ x :: l := p.mem_iff.mpr (List.mem_cons_self ..)
      rcases List.mem_cons.mp m1 with q | q
      · exact q
      · rcases List.mem_cons.mp m2 with w | w
        · exact w.symm
        · exact anti x y (a1.1 y w) (a2.1 x q)
    subst e
    rw [perm_sorted_eq anti (List.perm_cons x |>.mp p) a1.2 a2.2]
theorem sortS_perm (xs : List Str) : (sortS xs).Perm xs := List.mergeSort_perm ..
theorem sortS_pw (xs : List Str) : (sortS xs).Pairwise fun a b => ¬ slt b a := by
  have := List.pairwise_mergeSort (le := fun a b : Str => !decide (slt b a)) (fun a b c h1 h2 => ?_) (fun a b => ?_) xs
  · exact this.imp fun h => by simpa using h
  · simp only [Bool.not_eq_true', decide_eq_false_iff_not] at h1 h2 ⊢
    intro h
    rcases Sl.slt_tri a b with q | q | q
    · exact h2 (Sl.slt_trans h q)
    · subst q; exact h2 h
    · exact h1 q
  · simp only [Bool.or_eq_true, Bool.not_eq_true', decide_eq_false_iff_not]
    by_cases h : slt b a
    · exact .inr (Sl.slt_asymm h)
    · exact .inl h
theorem sortS_of {xs ys : List Str} (p : ys.Perm xs) (s : sortedS ys = true) : ys = sortS xs := by
  refine perm_sorted_eq (r := fun a b => ¬ slt b a) (fun a b h1 h2 => ?_) (p.trans (sortS_perm xs).symm) ?_ (sortS_pw xs)
  · rcases Sl.slt_tri a b with q | q | q
    · exact absurd q h2
    · exact q
    · exact absurd q h1
  · cases ys with
    | nil => exact List.Pairwise.nil
    | cons x r => exact Sl.rising_pw x r s
/-! ### dicts: what they hold -/
class DKey (κ : Type) where
  ky : κ → Key
  inj : ∀ a b, ky a = ky b → a = b
instance : DKey Str := ⟨Sum.inr, fun _ _ h => by injection h⟩
instance : DKey Int := ⟨Sum.inl, fun _ _ h => by injection h⟩
def KpOk (S : Fz) (H : Hp) : List (Key × V) → List (Key × Pv) → Prop
  | [], [] => True
  | kv :: kvs, kp :: kps => (kv.1 = kp.1 ∧ kp.2.p S H kv.2) ∧ KpOk S H kvs kps
  | _, _ => False
section
variable {S S' : Fz} {H H' : Hp}
theorem KpOk.up (l : Le S H S' H') : ∀ {vs : List (Key × V)} {ps : List (Key × Pv)}, KpOk S H vs ps → KpOk S' H' vs ps
  | [], [], _ => trivial
  | [], _ :: _, h => False.elim h
  | _ :: _, [], h => False.elim h
  | _ :: _, P :: _, h => ⟨⟨h.1.1, P.2.up l h.1.2⟩, KpOk.up l h.2⟩
theorem KpOk.len : ∀ {vs : List (Key × V)} {ps : List (Key × Pv)}, KpOk S H vs ps → vs.length = ps.length
  | [], [], _ => rfl
  | [], _ :: _, h => False.elim h
  | _ :: _, [], h => False.elim h
  | _ :: _, P :: _, h => congrArg Nat.succ (KpOk.len h.2)
theorem KpOk.keys : ∀ {vs : List (Key × V)} {ps : List (Key × Pv)}, KpOk S H vs ps → vs.map (·.1) = ps.map (·.1)
  | [], [], _ => rfl
  | [], _ :: _, h => False.elim h
  | _ :: _, [], h => False.elim h
  | v :: vs, P :: ps, h => by rw [List.map_cons, List.map_cons, h.1.1, KpOk.keys h.2]
def kpl {κ α : Type} [DKey κ] (t : α → Pv) (d : List (κ × α)) : List (Key × Pv) := d.map fun kv => (DKey.ky kv.1, t kv.2)
theorem KpOk.look {κ α : Type} [DKey κ] [DecidableEq κ] {t : α → Pv} {k : κ} : ∀ {kvs : List (Key × V)} {d : List (κ × α)}, KpOk S H kvs (kpl t d) → (∀ x, dlook d k = some x → ∃ v, valV kvs (DKey.ky k) = some v ∧ (t x).p S H v) ∧ (dlook d k = none → valV kvs (DKey.ky k) = none)
  | [], [], _ => ⟨fun x h => by simp [dlook] at h, fun _ => rfl⟩
  | [], _ :: _, h => False.elim h
  | _ :: _, [], h => False.elim h
  | kv :: kvs, (k', x') :: d, h => by
    obtain ⟨i1, i2⟩ := KpOk.look (k := k) (kvs := kvs) (d := d) h.2
    by_cases e : k' = k
    · have e' : kv.1 = DKey.ky k := by rw [h.1.1]; exact congrArg _ e
      have e1 : dlook ((k', x') :: d) k = some x' := by simp [dlook, List.find?_cons, e]
      rw [e1, valV_pos e']
      exact ⟨fun x hx => by cases hx; exact ⟨_, rfl, h.1.2⟩, fun z => by cases z⟩
    · have e' : ¬ kv.1 = DKey.ky k := by rw [h.1.1]; exact fun z => e (DKey.inj _ _ z)
      have e1 : dlook ((k', x') :: d) k = dlook d k := by simp [dlook, List.find?_cons, e]
      rw [e1, valV_neg e']
      exact ⟨i1, i2⟩
theorem KpOk.put {κ α : Type} [DKey κ] [DecidableEq κ] {t : α → Pv} {k : κ} {y : α} {v : V} {kvs : List (Key × V)} {d : List (κ × α)} (h : KpOk S H kvs (kpl t d)) (hv : (t y).p S H v) : KpOk S H (putK kvs (DKey.ky k) v) (kpl t (dput d k y)) := by
  have any : ∀ {kvs : List (Key × V)} {d : List (κ × α)}, KpOk S H kvs (kpl t d) → (kvs.any fun kv => decide (kv.1 = DKey.ky k)) = d.any fun kv => decide (kv.1 = k) := by
    intro kvs d h
    induction kvs generalizing d with
    | nil => cases d with
      | nil => rfl
      | cons p d => exact False.elim h
    | cons kv kvs ih => cases d with
      | nil => exact False.elim h
      | cons p d =>
        rw [List.any_cons, List.any_cons, ih h.2]
        congr 1
        have : kv.1 = DKey.ky p.1 := h.1.1
        rw [this]
        exact decide_eq_decide.mpr ⟨fun z => DKey.inj _ _ z, fun z => by rw [z]⟩
  unfold putK dput
  rw [any h]
  by_cases z : (d.any fun kv => decide (kv.1 = k)) = true
  · rw [if_pos z, if_pos z]
    clear z any
    induction kvs generalizing d with
    | nil => cases d with
      | nil => trivial
      | cons p d => exact False.elim h
    | cons kv kvs ih => cases d with
      | nil => exact False.elim h
      | cons p d =>
        have e : kv.1 = DKey.ky p.1 := h.1.1
        refine ⟨?_, ih h.2⟩
        by_cases q : p.1 = k
        · have q' : kv.1 = DKey.ky k := by rw [e, q]
          dsimp only
          rw [if_pos q', if_pos q]
          exact ⟨h.1.1, hv⟩
        · have q' : ¬ kv.1 = DKey.ky k := by rw [e]; exact fun z => q (DKey.inj _ _ z)
          dsimp only
          rw [if_neg q', if_neg q]
          exact h.1
  · rw [if_neg z, if_neg z]
    clear z any
    induction kvs generalizing d with
    | nil => cases d with
      | nil => exact ⟨⟨rfl, hv⟩, trivial⟩
      | cons p d => exact False.elim h
    | cons kv kvs ih => cases d with
      | nil => exact False.elim h
      | cons p d => exact ⟨h.1, ih h.2⟩
end
/-- a dict that stands -/
def pDct (kps : List (Key × Pv)) : Pv := ⟨fun S H v => ∃ a kvs, v = .ref a ∧ S a ∧ Rd H a (.dK kvs) ∧ KpOk S H kvs kps ∧ kvs.length ≤ sizeLine, fun l ⟨a, kvs, h1, h2, h3, h4, h5⟩ => ⟨a, kvs, h1, l.fz a h2, l.rd (fun _ _ e => nomatch e) (fun _ _ _ e => nomatch e) h3 (.inl h2), h4.up l, h5⟩⟩
def oDct (kps : List (Key × Pv)) : Ow where
  w S H o := ∃ kvs, o = .dK kvs ∧ KpOk S H kvs kps ∧ kvs.length ≤ sizeLine
  up l h := by obtain ⟨kvs, h1, h2, h3⟩ := h; exact ⟨kvs, h1, h2.up l, h3⟩
  nt h := by obtain ⟨kvs, rfl, _⟩ := h; rfl
  pv := pDct kps
  to hs he h := by obtain ⟨kvs, rfl, h2, h3⟩ := h; exact ⟨_, kvs, rfl, hs, .inl he, h2, h3⟩
abbrev yDct {κ α : Type} [DKey κ] (t : α → Pv) (d : List (κ × α)) : Pv := pDct (kpl t d)
abbrev wDct {κ α : Type} [DKey κ] (t : α → Pv) (d : List (κ × α)) : Ow := oDct (kpl t d)
abbrev wLst (K : PySem.W.Frag) {α : Type} (t : α → Pv) (xs : List α) : Ow := oLst K (xs.map t)
/-- keys as values -/
class KeyV (κ : Type) (t : κ → Pv) extends DKey κ where
  is : ∀ k S H v, (t k).p S H v → v = kV (ky k)
instance : KeyV Str yStr := { is := fun k S H v h => h }
instance : KeyV Int yInt := { is := fun k S H v h => h }
/-! ### data: what == tells apart -/
class Dat (K : PySem.W.Frag) {α : Type} (t : α → Pv) where
  enc : α → PyData
  dp : ∀ x S H v, (t x).p S H v → Dp K H v (enc x)
  pl : ∀ x, (enc x).plain = true
  n : Nat
  dep : ∀ x S H v, (t x).p S H v → (enc x).depth ≤ n
  eq : ∀ x y, PyData.eqv (enc x) (enc y) = true ↔ x = y
section
variable {K : PySem.W.Frag} {α β γ : Type} {t : α → Pv} {u : β → Pv} {w : γ → Pv}
instance : Dat K yInt := ⟨.int, fun x S H v h => h ▸ .int x, fun _ => rfl, 1, fun _ _ _ _ _ => by simp [PyData.depth], fun x y => by simp [PyData.eqv]⟩
instance : Dat K yStr := ⟨.str, fun x S H v h => h ▸ .str x, fun _ => rfl, 1, fun _ _ _ _ _ => by simp [PyData.depth], fun x y => by simp [PyData.eqv]⟩
instance : Dat K yBl := ⟨.bool, fun x S H v h => h ▸ .bl x, fun _ => rfl, 1, fun _ _ _ _ _ => by simp [PyData.depth], fun x y => by simp [PyData.eqv]⟩
theorem dps_of {S : Fz} {H : Hp} [D : Dat K t] : ∀ {vs : List V} {xs : List α}, PsOk S H vs (xs.map t) → DpAll K H vs (xs.map D.enc)
  | [], [], _ => .nil
  | [], _ :: _, h => False.elim h
  | _ :: _, [], h => False.elim h
  | v :: vs, x :: xs, h => .cons (D.dp x S H v h.1) (dps_of h.2)
theorem pls_of [D : Dat K t] : ∀ xs : List α, PyData.plainAll (xs.map D.enc) = true
  | [] => rfl
  | x :: xs => by rw [List.map_cons, PyData.plainAll, D.pl x, pls_of xs]; rfl
theorem deps_of [D : Dat K t] {S : Fz} {H : Hp} : ∀ {vs : List V} {xs : List α}, PsOk S H vs (xs.map t) → PyData.depthAll (xs.map D.enc) ≤ D.n
  | [], [], _ => by simp [PyData.depthAll]
  | [], _ :: _, h => False.elim h
  | _ :: _, [], h => False.elim h
  | v :: vs, x :: xs, h => by rw [List.map_cons, PyData.depthAll]; have := D.dep x S H v h.1; have := deps_of h.2; omega
theorem dep_mem [D : Dat K t] {S : Fz} {H : Hp} : ∀ {vs : List V} {xs : List α}, PsOk S H vs (xs.map t) → ∀ x ∈ xs, (D.enc x).depth ≤ D.n
  | [], [], _, _, h => nomatch h
  | [], _ :: _, h, _, _ => False.elim h
  | _ :: _, [], h, _, _ => False.elim h
  | v :: vs, y :: ys, h, x, hx => by
    rcases List.mem_cons.mp hx with e | hx
    · rw [e]; exact D.dep y S H v h.1
    · exact dep_mem h.2 x hx
theorem eqs_of [D : Dat K t] : ∀ xs ys : List α, PyData.eqvAll (xs.map D.enc) (ys.map D.enc) = true ↔ xs = ys
  | [], [] => by simp [PyData.eqvAll]
  | [], _ :: _ => by simp [PyData.eqvAll]
  | _ :: _, [] => by simp [PyData.eqvAll]
  | x :: xs, y :: ys => by
    rw [List.map_cons, List.map_cons, PyData.eqvAll, Bool.and_eq_true, D.eq x y, eqs_of xs ys]; simp
instance [D : Dat K t] : Dat K (fun xs : List α => yTup K t xs) := ⟨fun xs => .tuple (xs.map D.enc), fun xs S H v ⟨a, vs, e, h1, h2, _⟩ => e ▸ .tup h1 (dps_of h2), fun xs => by rw [PyData.plain]; exact pls_of xs, D.n + 1, fun xs S H v ⟨a, vs, e, h1, h2, _⟩ => by rw [PyData.depth]; have := deps_of (K := K) h2; omega, fun xs ys => by rw [PyData.eqv]; exact eqs_of xs ys⟩
instance [D : Dat K t] : Dat K (fun xs : List α => yLst K t xs) := ⟨fun xs => .list (xs.map D.enc), fun xs S H v ⟨a, vs, e, h1, h2, _⟩ => e ▸ .lst h1.1 (dps_of h2), fun xs => by rw [PyData.plain]; exact pls_of xs, D.n + 1, fun xs S H v ⟨a, vs, e, h1, h2, _⟩ => by rw [PyData.depth]; have := deps_of (K := K) h2; omega, fun xs ys => by rw [PyData.eqv]; exact eqs_of xs ys⟩
instance [D : Dat K t] [D' : Dat K u] : Dat K (yPr K t u) := ⟨fun x => .tuple [D.enc x.1, D'.enc x.2], fun x S H v ⟨a, vs, e, h1, h2, _⟩ => by
    subst e
    match vs, h2 with
    | [v1, v2], h2 => exact .tup h1 (.cons (D.dp _ _ _ _ h2.1) (.cons (D'.dp _ _ _ _ h2.2.1) .nil)), fun x => by simp [PyData.plain, PyData.plainAll, D.pl, D'.pl], max D.n D'.n + 1, fun x S H v ⟨a, vs, e, h1, h2, _⟩ => by
    match vs, h2 with
    | [v1, v2], h2 => simp only [PyData.depth, PyData.depthAll]; have := D.dep _ _ _ _ h2.1; have := D'.dep _ _ _ _ h2.2.1; omega, fun x y => by
    simp only [PyData.eqv, PyData.eqvAll, Bool.and_true, Bool.and_eq_true, D.eq, D'.eq]
    exact ⟨fun h => Prod.ext h.1 h.2, fun h => by rw [h]; exact ⟨rfl, rfl⟩⟩⟩
instance [D : Dat K t] [D' : Dat K u] [D2 : Dat K w] : Dat K (yTr K t u w) := ⟨fun x => .tuple [D.enc x.1, D'.enc x.2.1, D2.enc x.2.2], fun x S H v ⟨a, vs, e, h1, h2, _⟩ => by
    subst e
    match vs, h2 with
    | [v1, v2, v3], h2 => exact .tup h1 (.cons (D.dp _ _ _ _ h2.1) (.cons (D'.dp _ _ _ _ h2.2.1) (.cons (D2.dp _ _ _ _ h2.2.2.1) .nil))), fun x => by simp [PyData.plain, PyData.plainAll, D.pl, D'.pl, D2.pl], max D.n (max D'.n D2.n) + 1, fun x S H v ⟨a, vs, e, h1, h2, _⟩ => by
    match vs, h2 with
    | [v1, v2, v3], h2 => simp only [PyData.depth, PyData.depthAll]; have := D.dep _ _ _ _ h2.1; have := D'.dep _ _ _ _ h2.2.1; have := D2.dep _ _ _ _ h2.2.2.1; omega, fun x y => by
    simp only [PyData.eqv, PyData.eqvAll, Bool.and_true, Bool.and_eq_true, D.eq, D'.eq, D2.eq]
    exact ⟨fun h => Prod.ext h.1 (Prod.ext h.2.1 h.2.2), fun h => by rw [h]; exact ⟨rfl, rfl, rfl⟩⟩⟩
end
section
variable {ρ : Type} {A : Nat → Addr} {E : L2.St → XK} {K : PySem.W.Frag} {Γ : Ctx} {c : Res ρ} {κ : Ctx → Vo → Res ρ → Prop} {P P' : Pv} {ps qs : List Pv} {α β : Type} {t : α → Pv} {td ty tx te ta tb : TE} {Δ : Dl ρ}
theorem rx_eqD [DecidableEq α] [D : Dat K t] (hn : D.n ≤ 32) {x y : α} (h : κ Γ (.val (yBl (decide (x = y)))) c) : RX A E (Sl.rEqP K) (t x) (t y) Γ c κ := fun F T S σ H v w Q O R hc h1 h2 k => by
  refine ⟨_, _, D.dp _ _ _ _ h1, D.dp _ _ _ _ h2, ⟨D.pl x, Nat.le_trans (D.dep _ _ _ _ h1) hn⟩, ⟨D.pl y, Nat.le_trans (D.dep _ _ _ _ h2) hn⟩, ?_⟩
  have e : PyData.eqv (D.enc x) (D.enc y) = decide (x = y) := by rw [Bool.eq_iff_iff, D.eq]; simp
  rw [e]
  exact k _ _ _ h S H _ R Le.refl rfl hc
theorem any_of [DecidableEq α] [D : Dat K t] (x : α) : ∀ ys : List α, ((ys.map D.enc).any fun z => PyData.eqv z (D.enc x)) = decide (x ∈ ys)
  | [] => by simp
  | y :: ys => by
    rw [List.map_cons, List.any_cons, any_of x ys]
    have e : PyData.eqv (D.enc y) (D.enc x) = decide (y = x) := by rw [Bool.eq_iff_iff, D.eq]; simp
    rw [e, Bool.eq_iff_iff]
    simp only [Bool.or_eq_true, decide_eq_true_eq, List.mem_cons]
    exact ⟨fun h => h.imp Eq.symm id, fun h => h.imp Eq.symm id⟩
/-- x in ys, ys a list, a tuple or either -/
class SeqK (K : PySem.W.Frag) (p : List Pv → Pv) where
  sq : ∀ ps S H v, (p ps).p S H v → ∃ a vs, v = .ref a ∧ (SqL K H a vs ∨ SqT K H a vs) ∧ PsOk S H vs ps ∧ vs.length ≤ sizeLine
instance : SeqK K (pLst K) := ⟨fun ps S H v ⟨a, vs, e, h1, h2, h3⟩ => ⟨a, vs, e, .inl h1.1, h2, h3⟩⟩
instance : SeqK K (pTup K) := ⟨fun ps S H v ⟨a, vs, e, h1, h2, h3⟩ => ⟨a, vs, e, .inr h1, h2, h3⟩⟩
instance : SeqK K (pSeq K) := ⟨fun ps S H v h => h.elim (fun ⟨a, vs, e, h1, h2, h3⟩ => ⟨a, vs, e, .inl h1.1, h2, h3⟩) fun ⟨a, vs, e, h1, h2, h3⟩ => ⟨a, vs, e, .inr h1, h2, h3⟩⟩
theorem rx_inD (p : List Pv → Pv) [Q : SeqK K p] [DecidableEq α] [D : Dat K t] (hn : D.n ≤ 32) {x : α} {ys : List α} (h : κ Γ (.val (yBl (decide (x ∈ ys)))) c) : RX A E (Sl.rInP K false) (t x) (p (ys.map t)) Γ c κ := fun F T S σ H v w Q' O R hc h1 h2 k => by
  obtain ⟨a, vs, rfl, hs, hv, _⟩ := Q.sq _ _ _ _ h2
  refine ⟨_, ys.map D.enc, D.dp _ _ _ _ h1, hs.imp (fun h => .lst h (dps_of hv)) fun h => .tup h (dps_of hv), ⟨D.pl x, Nat.le_trans (D.dep _ _ _ _ h1) hn⟩, pls_of ys, ?_⟩
  rw [any_of]
  exact k _ _ _ h S H _ R Le.refl rfl hc
theorem rx_ninD (p : List Pv → Pv) [Q : SeqK K p] [DecidableEq α] [D : Dat K t] (hn : D.n ≤ 32) {x : α} {ys : List α} (h : κ Γ (.val (yBl (!decide (x ∈ ys)))) c) : RX A E (Sl.rInP K true) (t x) (p (ys.map t)) Γ c κ := fun F T S σ H v w Q' O R hc h1 h2 k => by
  obtain ⟨a, vs, rfl, hs, hv, _⟩ := Q.sq _ _ _ _ h2
  refine ⟨_, ys.map D.enc, D.dp _ _ _ _ h1, hs.imp (fun h => .lst h (dps_of hv)) fun h => .tup h (dps_of hv), ⟨D.pl x, Nat.le_trans (D.dep _ _ _ _ h1) hn⟩, pls_of ys, ?_⟩
  rw [any_of]
  exact k _ _ _ h S H _ R Le.refl rfl hc
/-! subscripts -/
theorem atI_of {S : Fz} {H : Hp} {vs : List V} {i : Int} (h : PsOk S H vs ps) : ∀ {P}, atI ps i = some P → ∃ v, atI vs i = some v ∧ P.p S H v := fun {P} e => by
  unfold atI at e ⊢
  rw [h.length]
  cases z : ixN ps.length i with
  | none => rw [z] at e; cases e
  | some j =>
    rw [z] at e
    exact h.at' e
theorem atI_map {i : Int} {xs : List α} {f : α → β} {x : α} (h : atI xs i = some x) : atI (xs.map f) i = some (f x) := by
  unfold atI at h ⊢
  rw [List.length_map]
  cases z : ixN xs.length i with
  | none => rw [z] at h; cases h
  | some j =>
    rw [z] at h
    show (xs.map f)[j]? = _
    have h : xs[j]? = some x := h
    rw [List.getElem?_map, h]; rfl
theorem rx_ixT {i : Int} (hi : atI ps i = some P) (h : κ Γ (.val P) c) : RX A E (rIxT K) (pTup K ps) (yInt i) Γ c κ := fun F T S σ H v w Q O R hc h1 h2 k => by
  obtain ⟨a, vs, rfl, hs, hv, _⟩ := h1
  obtain ⟨v, e, hp⟩ := atI_of hv hi
  exact ⟨a, vs, i, v, rfl, h2, hs, e, k _ _ _ h S H _ R Le.refl hp hc⟩
theorem pidx_of {xs : List α} {i : Int} {k : α → Res ρ} {T : Res ρ → Prop} (nb : ¬ T .bad) (h : T ((pidx xs i).bind k)) : ∃ x, atI xs i = some x ∧ T (k x) := by
  unfold pidx at h
  cases e : atI xs i with
  | none => rw [e] at h; exact absurd h nb
  | some x => rw [e] at h; exact ⟨x, rfl, h⟩
theorem rx_ixTp {xs : List α} {i : Int} {k : α → Res ρ} (e : c = (pidx xs i).bind k) (h : ∀ x, κ Γ (.val (t x)) (k x)) : RX A E (rIxT K) (yTup K t xs) (yInt i) Γ c κ := fun F T S σ H v w Q O R hc h1 h2 kk => by
  subst e
  obtain ⟨x, hx, hT⟩ := pidx_of O.nb hc
  exact rx_ixT (A := A) (E := E) (K := K) (c := k x) (κ := κ) (atI_map hx) (h x) F T S σ H v w Q O R hT h1 h2 kk
theorem rx_ixLp {xs : List α} {i : Int} {k : α → Res ρ} (e : c = (pidx xs i).bind k) (h : ∀ x, κ Γ (.val (t x)) (k x)) : RX A E (rIxL K) (yLst K t xs) (yInt i) Γ c κ := fun F T S σ H v w Q O R hc h1 h2 kk => by
  subst e
  obtain ⟨x, hx, hT⟩ := pidx_of O.nb hc
  obtain ⟨a, vs, rfl, hs, hv, _⟩ := h1
  obtain ⟨v, e, hp⟩ := atI_of hv (atI_map (f := t) hx)
  exact ⟨a, vs, i, v, rfl, h2, hs.1, e, kk _ _ _ (h x) S H _ R Le.refl hp hT⟩
/-! slices -/
theorem cut_ok {S : Fz} {H : Hp} {vs : List V} {lo hi : Option Int} (h : PsOk S H vs ps) : PsOk S H (cutV vs lo hi) (pcut ps lo hi) := by
  unfold cutV pcut
  rw [h.length]
  exact PsOk.take _ (PsOk.drop _ h)
theorem pcut_map {lo hi : Option Int} {xs : List α} {f : α → β} : pcut (xs.map f) lo hi = (pcut xs lo hi).map f := by
  unfold pcut
  rw [List.length_map, List.map_take, List.map_drop]
theorem cutV_le {vs : List V} {lo hi : Option Int} : (cutV vs lo hi).length ≤ vs.length := by
  unfold cutV
  rw [List.length_take, List.length_drop]; omega
/-- the bounds -/
def WO (A : Nat → Addr) (E : L2.St → XK) (Γ : Ctx) (t : TO) (c : Res ρ) (κ : Ctx → Option Int → Res ρ → Prop) : Prop :=
  ∀ (F : Fr) (T : Res ρ → Prop) (S : Fz) (σ : L2.St) (H : Hp) (Q : Option Int → Hp → Prop), Ok0 A (E σ) F T → Rel F Γ S σ H → T c →
    (∀ Γ' b c', κ Γ' b c' → ∀ S' H', Rel F Γ' S' σ H' → Le S H S' H' → T c' → Q b H') → t σ H Q
theorem wo_no {κ : Ctx → Option Int → Res ρ → Prop} (h : κ Γ none c) : WO A E Γ tNoPart c κ := fun F T S σ H Q O R hc k => k _ _ _ h S H R Le.refl hc
theorem wo_some {κ : Ctx → Option Int → Res ρ → Prop} (h : WX A E Γ te c fun Γ1 V c1 => ∃ i, V = .val (yInt i) ∧ κ Γ1 (some i) c1) : WO A E Γ (tPart te) c κ := fun F T S σ H Q O R hc k => by
  refine h F T S σ H _ O R hc fun Γ1 V c1 h1 S1 H1 x R1 l1 p1 hc1 => ?_
  obtain ⟨i, rfl, h1⟩ := h1
  exact ⟨i, p1, k _ _ _ h1 S1 H1 R1 l1 hc1⟩
theorem wx_slT {tl th : TO} (h : WX A E Γ te c fun Γ1 V c1 => ∃ ps, V = .val (pTup K ps) ∧ WO A E Γ1 tl c1 fun Γ2 lo c2 => WO A E Γ2 th c2 fun Γ3 hi c3 => κ Γ3 (.val (pTup K (pcut ps lo hi))) c3) : WX A E Γ (tSl (rSlA K) te tl th) c κ := fun F T S σ H Q O R hc k => by
  refine h F T S σ H _ O R hc fun Γ1 V c1 h1 S1 H1 x R1 l1 p1 hc1 => ?_
  obtain ⟨ps, rfl, h1⟩ := h1
  refine h1 F T S1 σ H1 _ O R1 hc1 fun Γ2 lo c2 h2 S2 H2 R2 l2 hc2 => ?_
  refine h2 F T S2 σ H2 _ O R2 hc2 fun Γ3 hi c3 h3 S3 H3 R3 l3 hc3 => ?_
  obtain ⟨a, vs, rfl, hs, hv, hl⟩ := (pTup K ps).up (l2.trans l3) p1
  have l13 := (l1.trans l2).trans l3
  have hc := cut_ok (lo := lo) (hi := hi) hv
  have hl' : (cutV vs lo hi).length ≤ sizeLine := Nat.le_trans cutV_le hl
  refine ⟨a, vs, rfl, hs, fun w => ?_, fun _ p hp => ?_⟩
  · have e : cutV vs lo hi = vs := by unfold cutV; rw [w.1, w.2]; simp
    rw [e] at hc
    exact k _ _ _ h3 S3 H3 _ R3 l13 ⟨a, vs, rfl, hs, hc, hl⟩ hc3
  · exact k _ _ _ h3 S3 _ _ (R3.new hp) (l13.trans (le_new hp)) ⟨p, _, rfl, .inl (.inl upd_same), hc.up (le_new hp), hl'⟩ hc3
theorem wx_slL {tl th : TO} (h : WX A E Γ te c fun Γ1 V c1 => ∃ ps, V = .val (pLst K ps) ∧ WO A E Γ1 tl c1 fun Γ2 lo c2 => WO A E Γ2 th c2 fun Γ3 hi c3 => κ Γ3 (.own (oLst K (pcut ps lo hi))) c3) : WX A E Γ (tSl (rSlL K) te tl th) c κ := fun F T S σ H Q O R hc k => by
  refine h F T S σ H _ O R hc fun Γ1 V c1 h1 S1 H1 x R1 l1 p1 hc1 => ?_
  obtain ⟨ps, rfl, h1⟩ := h1
  refine h1 F T S1 σ H1 _ O R1 hc1 fun Γ2 lo c2 h2 S2 H2 R2 l2 hc2 => ?_
  refine h2 F T S2 σ H2 _ O R2 hc2 fun Γ3 hi c3 h3 S3 H3 R3 l3 hc3 => ?_
  obtain ⟨a, vs, rfl, hs, hv, hl⟩ := (pLst K ps).up (l2.trans l3) p1
  refine ⟨a, vs, rfl, hs.1, fun p hp => ?_⟩
  exact k _ _ _ h3 S3 _ _ (R3.new hp) (((l1.trans l2).trans l3).trans (le_new hp)) (isOwn R3 hp ⟨_, rfl, (cut_ok hv).up (le_new hp), Nat.le_trans cutV_le hl⟩) hc3
/-! + of lists and tuples -/
theorem pcat_of {xs ys : List α} {k : List α → Res ρ} {T : Res ρ → Prop} (nb : ¬ T .bad) (h : T ((pcat xs ys).bind k)) : xs.length + ys.length ≤ 100000 ∧ T (k (xs ++ ys)) := by
  unfold pcat at h
  by_cases z : xs.length + ys.length ≤ 100000
  · rw [if_pos z] at h; exact ⟨z, h⟩
  · rw [if_neg z] at h; exact absurd h nb
theorem rx_catT {xs ys : List α} {k : List α → Res ρ} (e : c = (pcat xs ys).bind k) (h : κ Γ (.val (yTup K t (xs ++ ys))) (k (xs ++ ys))) : RX A E (rCatA K) (yTup K t xs) (yTup K t ys) Γ c κ := fun F T S σ H v w Q O R hc h1 h2 kk => by
  subst e
  obtain ⟨hz, hT⟩ := pcat_of O.nb hc
  obtain ⟨a, vs, rfl, hs, hv, hl⟩ := h1
  obtain ⟨b, ws, rfl, hs', hv', hl'⟩ := h2
  have e1 := hv.length
  have e2 := hv'.length
  rw [List.length_map] at e1 e2
  have ha : PsOk S H (vs ++ ws) ((xs ++ ys).map t) := by rw [List.map_append]; exact hv.app hv'
  have hz' : (vs ++ ws).length ≤ sizeLine := sz (by rw [List.length_append]; omega)
  refine ⟨a, b, vs, ws, rfl, rfl, hs, hs', sz (by omega), fun z => ?_, fun _ z => ?_, fun _ _ p hp => ?_⟩
  · subst z
    exact kk _ _ _ h S H _ R Le.refl ⟨b, ws, rfl, hs', ha, hl'⟩ hT
  · subst z
    rw [List.append_nil] at ha
    exact kk _ _ _ h S H _ R Le.refl ⟨a, vs, rfl, hs, ha, hl⟩ hT
  · exact kk _ _ _ h S _ _ (R.new hp) (le_new hp) ⟨p, _, rfl, .inl (.inl upd_same), ha.up (le_new hp), hz'⟩ hT
theorem rx_catL {xs ys : List α} {k : List α → Res ρ} (e : c = (pcat xs ys).bind k) (h : κ Γ (.own (wLst K t (xs ++ ys))) (k (xs ++ ys))) : RX A E (rCatS K) (yLst K t xs) (yLst K t ys) Γ c κ := fun F T S σ H v w Q O R hc h1 h2 kk => by
  subst e
  obtain ⟨hz, hT⟩ := pcat_of O.nb hc
  obtain ⟨a, vs, rfl, hs, hv, hl⟩ := h1
  obtain ⟨b, ws, rfl, hs', hv', hl'⟩ := h2
  have e1 := hv.length
  have e2 := hv'.length
  rw [List.length_map] at e1 e2
  have ha : PsOk S H (vs ++ ws) ((xs ++ ys).map t) := by rw [List.map_append]; exact hv.app hv'
  exact ⟨a, b, vs, ws, rfl, rfl, hs.1, hs'.1, sz (by omega), fun p hp => kk _ _ _ h S _ _ (R.new hp) (le_new hp) (isOwn R hp ⟨_, rfl, ha.up (le_new hp), sz (by rw [List.length_append]; omega)⟩) hT⟩
/-! ints -/
theorem rx_it {C : Int → Int → Prop} {g : Int → Int → V} {f : Int → Int → Int} {x y : Int} (hC : C x y) (hg : g x y = .int (f x y)) (h : κ Γ (.val (yInt (f x y))) c) : RX A E (rI C g) (yInt x) (yInt y) Γ c κ := fun F T S σ H v w Q O R hc h1 h2 k => ⟨x, y, h1, h2, hC, k _ _ _ h S H _ R Le.refl hg hc⟩
theorem rx_mod {g : Int → Int → V} {x y : Int} {k : Int → Res ρ} (hg : g x y = .int (x % y)) (e : c = (pmod x y).bind k) (h : ∀ z, κ Γ (.val (yInt z)) (k z)) : RX A E (rI (fun _ j => 0 < j) g) (yInt x) (yInt y) Γ c κ := fun F T S σ H v w Q O R hc h1 h2 kk => by
  subst e
  unfold pmod at hc
  by_cases z : 0 < y
  · rw [if_pos z] at hc
    exact ⟨x, y, h1, h2, z, kk _ _ _ (h _) S H _ R Le.refl hg hc⟩
  · rw [if_neg z] at hc; exact absurd hc O.nb
theorem rx_div {g : Int → Int → V} {x y : Int} {k : Int → Res ρ} (hg : g x y = .int (x / y)) (e : c = (pdiv x y).bind k) (h : ∀ z, κ Γ (.val (yInt z)) (k z)) : RX A E (rI CDiv g) (yInt x) (yInt y) Γ c κ := fun F T S σ H v w Q O R hc h1 h2 kk => by
  subst e
  unfold pdiv at hc
  by_cases z : 0 < y ∧ y < 1073741824
  · rw [if_pos z] at hc
    exact ⟨x, y, h1, h2, z, kk _ _ _ (h _) S H _ R Le.refl hg hc⟩
  · rw [if_neg z] at hc; exact absurd hc O.nb
theorem rx_mul {g : Int → Int → V} {x y : Int} {k : Int → Res ρ} (hg : g x y = .int (x * y)) (e : c = (pmul x y).bind k) (h : ∀ z, κ Γ (.val (yInt z)) (k z)) : RX A E (rI CMul g) (yInt x) (yInt y) Γ c κ := fun F T S σ H v w Q O R hc h1 h2 kk => by
  subst e
  unfold pmul at hc
  by_cases z : (-(2 ^ 64) < x ∧ x < 2 ^ 64) ∨ (-(2 ^ 64) < y ∧ y < 2 ^ 64)
  · rw [if_pos z] at hc
    exact ⟨x, y, h1, h2, z, kk _ _ _ (h _) S H _ R Le.refl hg hc⟩
  · rw [if_neg z] at hc; exact absurd hc O.nb
theorem rx_cmp {g : Int → Int → V} {x y : Int} {b : Bool} (hg : g x y = .bl b) (h : κ Γ (.val (yBl b)) c) : RX A E (rI0 g) (yInt x) (yInt y) Γ c κ := fun F T S σ H v w Q O R hc h1 h2 k => ⟨x, y, h1, h2, k _ _ _ h S H _ R Le.refl hg hc⟩
theorem rx_ari {g : Int → Int → V} {x y z : Int} (hg : g x y = .int z) (h : κ Γ (.val (yInt z)) c) : RX A E (rI0 g) (yInt x) (yInt y) Γ c κ := fun F T S σ H v w Q O R hc h1 h2 k => ⟨x, y, h1, h2, k _ _ _ h S H _ R Le.refl hg hc⟩
theorem ru_neg {x : Int} (h : κ Γ (.val (yInt (-x))) c) : RU A E (rU fun i => .int (-i)) (yInt x) Γ c κ := fun F T S σ H v Q O R hc h1 k => ⟨x, h1, k _ _ _ h S H _ R Le.refl rfl hc⟩
/-! x is None -/
theorem rx_isN {x : Option α} (hx : ∀ x S H v, (t x).p S H v → v ≠ .non) (h : κ Γ (.val (yBl x.isNone)) c) : RX A E (fun x y H Q => y = .non ∧ Q (.bl (decide (x = .non))) H) (yOpt t x) yNon Γ c κ := fun F T S σ H v w Q O R hc h1 h2 k => by
  refine ⟨h2, ?_⟩
  have e : decide (v = .non) = x.isNone := by
    cases x with
    | none => have : v = .non := h1; simp [this]
    | some x => have : v ≠ .non := hx x S H v h1; simp [this]
  rw [e]
  exact k _ _ _ h S H _ R Le.refl rfl hc
theorem rx_notN {x : Option α} (hx : ∀ x S H v, (t x).p S H v → v ≠ .non) (h : κ Γ (.val (yBl x.isSome)) c) : RX A E (fun x y H Q => y = .non ∧ Q (.bl (!decide (x = .non))) H) (yOpt t x) yNon Γ c κ := fun F T S σ H v w Q O R hc h1 h2 k => by
  refine ⟨h2, ?_⟩
  have e : (!decide (v = .non)) = x.isSome := by
    cases x with
    | none => have : v = .non := h1; simp [this]
    | some x => have : v ≠ .non := hx x S H v h1; simp [this]
  rw [e]
  exact k _ _ _ h S H _ R Le.refl rfl hc
/-! ### calls of built-ins -/
theorem ag1 {σ : L2.St} {S : Fz} {H : Hp} {vs : List V} (h : AgsOk σ S H vs [.val P]) : ∃ v, vs = [v] ∧ P.p S H v := by
  match vs, h with
  | [v], h => exact ⟨v, rfl, h.1⟩
theorem ag2 {σ : L2.St} {S : Fz} {H : Hp} {vs : List V} (h : AgsOk σ S H vs [.val P, .val P']) : ∃ v w, vs = [v, w] ∧ P.p S H v ∧ P'.p S H w := by
  match vs, h with
  | [v, w], h => exact ⟨v, w, rfl, h.1, h.2.1⟩
theorem rc_lenSq (p : List Pv → Pv) [Q : SeqK K p] (h : κ Γ (.val (yInt (ps.length : Int))) c) : RC A E (fun _ => Sl.rLenK K) [.val (p ps)] Γ c κ := fun F T S σ H vs Q' O R hc hg k => by
  obtain ⟨v, rfl, hv⟩ := ag1 hg
  obtain ⟨a, ws, rfl, hs, hw, _⟩ := Q.sq _ _ _ _ hv
  refine ⟨_, ps.length, rfl, hs.imp (fun h => ⟨ws, h, hw.length.symm⟩) fun h => ⟨ws, h, hw.length.symm⟩, k _ _ _ h S H _ R Le.refl rfl hc⟩
theorem rc_lenD {kps : List (Key × Pv)} (h : κ Γ (.val (yInt (kps.length : Int))) c) : RC A E (fun _ xs H Q => ∃ a kvs, xs = [V.ref a] ∧ Rd H a (.dK kvs) ∧ Q (.int kvs.length) H) [.val (pDct kps)] Γ c κ := fun F T S σ H vs Q' O R hc hg k => by
  obtain ⟨v, rfl, hv⟩ := ag1 hg
  obtain ⟨a, kvs, rfl, hs, hr, hk, hl⟩ := hv
  refine ⟨a, kvs, rfl, hr, ?_⟩
  rw [hk.len]
  exact k _ _ _ h S H _ R Le.refl rfl hc
theorem rc_list (p : List Pv → Pv) [Q : SeqK K p] (h : κ Γ (.own (oLst K ps)) c) : RC A E (fun _ => Sl.rListOf K) [.val (p ps)] Γ c κ := fun F T S σ H vs Q' O R hc hg k => by
  obtain ⟨v, rfl, hv⟩ := ag1 hg
  obtain ⟨a, ws, rfl, hs, hw, hl⟩ := Q.sq _ _ _ _ hv
  exact ⟨a, ws, rfl, hs, fun l hp => k _ _ _ h S _ _ (R.new hp) (le_new hp) (isOwn R hp ⟨ws, rfl, hw.up (le_new hp), hl⟩) hc⟩
theorem rc_listD {kps : List (Key × Pv)} {κk : Type} {tk : κk → Pv} [KV : KeyV κk tk] {ks : List κk} (hk : kps.map (·.1) = ks.map KV.ky) (hk' : ∀ k S H, (tk k).p S H (kV (KV.ky k))) (h : κ Γ (.own (wLst K tk ks)) c) : RC A E (fun _ xs H Q => ∃ (a : Addr) (kvs : List (Key × V)), xs = [.ref a] ∧ Rd H a (.dK kvs) ∧ ∀ p, H p = none → Q (.ref p) (upd H p (.lst (kvs.map fun kv => kV kv.1)))) [.val (pDct kps)] Γ c κ := fun F T S σ H vs Q' O R hc hg k => by
  obtain ⟨v, rfl, hv⟩ := ag1 hg
  obtain ⟨a, kvs, rfl, hs, hr, hkp, hl⟩ := hv
  refine ⟨a, kvs, rfl, hr, fun p hp => k _ _ _ h S _ _ (R.new hp) (le_new hp) (isOwn R hp ⟨_, rfl, ?_, by rw [List.length_map]; exact hl⟩) hc⟩
  have e := hkp.keys
  rw [hk] at e
  have e2 : (kvs.map fun kv => kV kv.1) = ks.map fun k => kV (KV.ky k) := by
    have := congrArg (List.map kV) e
    rw [List.map_map, List.map_map] at this
    exact this
  rw [e2]
  generalize upd H p (.lst (ks.map fun k => kV (KV.ky k))) = H2
  clear e e2 hk h
  induction ks with
  | nil => trivial
  | cons q qs ih => exact ⟨hk' q _ _, ih⟩
theorem rc_tuple (p : List Pv → Pv) [Q : SeqK K p] (h : κ Γ (.val (pTup K ps)) c) : RC A E (fun _ => Sl.rTupleOf K) [.val (p ps)] Γ c κ := fun F T S σ H vs Q' O R hc hg k => by
  obtain ⟨v, rfl, hv⟩ := ag1 hg
  obtain ⟨a, ws, rfl, hs, hw, hl⟩ := Q.sq _ _ _ _ hv
  rcases hs with hs | hs
  · exact ⟨a, ws, rfl, .inl ⟨hs, fun l hp => k _ _ _ h S _ _ (R.new hp) (le_new hp) ⟨l, ws, rfl, .inl (.inl upd_same), hw.up (le_new hp), hl⟩ hc⟩⟩
  · exact ⟨a, ws, rfl, .inr ⟨hs, k _ _ _ h S H _ R Le.refl ⟨a, ws, rfl, hs, hw, hl⟩ hc⟩⟩
theorem strs_of {S : Fz} {H : Hp} : ∀ {vs : List V} {xs : List Str}, PsOk S H vs (xs.map yStr) → vs = xs.map V.str
  | [], [], _ => rfl
  | [], _ :: _, h => False.elim h
  | _ :: _, [], h => False.elim h
  | v :: vs, x :: xs, h => by
    have e : v = .str x := h.1
    rw [e, strs_of h.2]; rfl
theorem of_strs {S : Fz} {H : Hp} : ∀ (xs : List Str), PsOk S H (xs.map V.str) (xs.map yStr)
  | [] => trivial
  | x :: xs => ⟨rfl, of_strs xs⟩
theorem of_ints {S : Fz} {H : Hp} : ∀ (xs : List Int), PsOk S H (xs.map V.int) (xs.map yInt)
  | [] => trivial
  | x :: xs => ⟨rfl, of_ints xs⟩
theorem bls_of {S : Fz} {H : Hp} : ∀ {vs : List V} {xs : List Bool}, PsOk S H vs (xs.map yBl) → vs = xs.map V.bl
  | [], [], _ => rfl
  | [], _ :: _, h => False.elim h
  | _ :: _, [], h => False.elim h
  | v :: vs, x :: xs, h => by
    have e : v = .bl x := h.1
    rw [e, bls_of h.2]; rfl
theorem psortS_of {xs : List Str} {k : List Str → Res ρ} {T : Res ρ → Prop} (nb : ¬ T .bad) (h : T ((psortS xs).bind k)) : xs.length < 64 ∧ T (k (sortS xs)) := by
  unfold psortS at h
  by_cases z : xs.length < 64
  · rw [if_pos z] at h; exact ⟨z, h⟩
  · rw [if_neg z] at h; exact absurd h nb
theorem rc_sortS {xs : List Str} {k : List Str → Res ρ} (e : c = (psortS xs).bind k) (h : κ Γ (.own (wLst K yStr (sortS xs))) (k (sortS xs))) : RC A E (fun _ => rSortedS K) [.val (yLst K yStr xs)] Γ c κ := fun F T S σ H vs Q' O R hc hg kk => by
  subst e
  obtain ⟨hz, hT⟩ := psortS_of O.nb hc
  obtain ⟨v, rfl, hv⟩ := ag1 hg
  obtain ⟨a, ws, rfl, hs, hw, hl⟩ := hv
  have e := strs_of hw
  subst e
  refine ⟨a, xs, rfl, hs.1, hz, fun ys p hp srt hn => ?_⟩
  have e := sortS_of hp srt
  subst e
  exact kk _ _ _ h S _ _ (R.new hn) (le_new hn) (isOwn R hn ⟨_, rfl, of_strs _, sz (by rw [List.length_map, hp.length_eq]; omega)⟩) hT
theorem rc_any {bs : List Bool} (h : κ Γ (.val (yBl (bs.any id))) c) : RC A E (fun _ => rAny K) [.val (yLst K yBl bs)] Γ c κ := fun F T S σ H vs Q' O R hc hg kk => by
  obtain ⟨v, rfl, hv⟩ := ag1 hg
  obtain ⟨a, ws, rfl, hs, hw, hl⟩ := hv
  have e := bls_of hw
  subst e
  exact ⟨a, bs, rfl, hs.1, kk _ _ _ h S H _ R Le.refl rfl hc⟩
theorem rc_int1 {x : Int} (h : κ Γ (.val (yInt x)) c) : RC A E (fun _ xs H Q => (∃ i, xs = [.int i] ∧ Q (.int i) H) ∨ ∃ k, xs = [.bl k] ∧ Q (.int (if k then 1 else 0)) H) [.val (yInt x)] Γ c κ := fun F T S σ H vs Q' O R hc hg kk => by
  obtain ⟨v, rfl, hv⟩ := ag1 hg
  exact .inl ⟨x, by rw [show v = .int x from hv], kk _ _ _ h S H _ R Le.refl rfl hc⟩
theorem rc_min2 {x y : Int} (h : κ Γ (.val (yInt (min x y))) c) : RC A E (fun _ xs H Q => ∃ i j, xs = [.int i, .int j] ∧ Q (.int (if j < i then j else i)) H) [.val (yInt x), .val (yInt y)] Γ c κ := fun F T S σ H vs Q' O R hc hg kk => by
  obtain ⟨v, w, rfl, hv, hw⟩ := ag2 hg
  refine ⟨x, y, by rw [show v = .int x from hv, show w = .int y from hw], ?_⟩
  have e : (if y < x then y else x) = min x y := by split <;> omega
  rw [e]
  exact kk _ _ _ h S H _ R Le.refl rfl hc
/-! isinstance, whose answer the kind tells -/
class HasTy (K : PySem.W.Frag) {α : Type} (t : α → Pv) (T : outParam String) where
  ty : ∀ x S H v, (t x).p S H v → TyX K H v (.type T)
def yCls (T : String) : Pv := ⟨fun _ _ v => v = .ty T, fun _ h => h⟩
end
end Mi
namespace Mi
open PySem PySem.Spec PyProof.Rows L2
open Sl (isTup sz szl slt)
/-! ### objects that do not change -/
def FlOk (S : Fz) (H : Hp) : List (Str × V) → List (Str × Pv) → Prop
  | [], [] => True
  | kv :: kvs, kp :: kps => (kv.1 = kp.1 ∧ kp.2.p S H kv.2) ∧ FlOk S H kvs kps
  | _, _ => False
section
variable {S S' : Fz} {H H' : Hp}
theorem FlOk.up (l : Le S H S' H') : ∀ {vs : List (Str × V)} {ps : List (Str × Pv)}, FlOk S H vs ps → FlOk S' H' vs ps
  | [], [], _ => trivial
  | [], _ :: _, h => False.elim h
  | _ :: _, [], h => False.elim h
  | _ :: _, P :: _, h => ⟨⟨h.1.1, P.2.up l h.1.2⟩, FlOk.up l h.2⟩
theorem FlOk.none {m : Str} : ∀ {vs : List (Str × V)} {ps : List (Str × Pv)}, FlOk S H vs ps → (ps.map (·.1)).contains m = false → vs.lookup m = none
  | [], [], _, _ => rfl
  | [], _ :: _, h, _ => False.elim h
  | _ :: _, [], h, _ => False.elim h
  | (n, v) :: vs, (n', P) :: ps, h, e => by
    have hn : n = n' := h.1.1
    rw [List.map_cons, List.contains_cons, Bool.or_eq_false_iff] at e
    rw [List.lookup_cons, hn, e.1]
    exact FlOk.none h.2 e.2
theorem FlOk.look {m : Str} {P : Pv} : ∀ {vs : List (Str × V)} {ps : List (Str × Pv)}, FlOk S H vs ps → ps.lookup m = some P → ∃ v, vs.lookup m = some v ∧ P.p S H v
  | [], [], _, e => by cases e
  | [], _ :: _, h, _ => False.elim h
  | _ :: _, [], h, _ => False.elim h
  | (n, v) :: vs, (n', P') :: ps, h, e => by
    have hn : n = n' := h.1.1
    subst hn
    rw [List.lookup_cons] at e ⊢
    split
    · next q => rw [q] at e; cases e; exact ⟨v, rfl, h.1.2⟩
    · next q => rw [q] at e; exact FlOk.look h.2 e
end
def pObj (C : Addr) (fs : List (Str × Pv)) : Pv := ⟨fun S H v => ∃ a dx vs, v = .ref a ∧ S a ∧ H a = some (.ins C dx vs) ∧ FlOk S H vs fs, fun l ⟨a, dx, vs, h1, h2, h3, h4⟩ => ⟨a, dx, vs, h1, l.fz a h2, l.ins h3 h2, h4.up l⟩⟩
def yKind (C : Addr) (_ : Unit) : Pv := pObj C []
instance {K : PySem.W.Frag} : HasTy K yInt "int" := ⟨fun x S H v h => h ▸ .base (.int x)⟩
instance {K : PySem.W.Frag} : HasTy K yStr "str" := ⟨fun x S H v h => h ▸ .base (.str x)⟩
instance {K : PySem.W.Frag} : HasTy K yBl "bool" := ⟨fun x S H v h => h ▸ .base (.bl x)⟩
instance {K : PySem.W.Frag} {κ α : Type} [DKey κ] {t : α → Pv} : HasTy K (fun d : List (κ × α) => yDct t d) "dict" := ⟨fun x S H v ⟨a, kvs, e, _, h, _⟩ => e ▸ h.elim (fun h => .base (.dK h)) fun ⟨z, h⟩ => .fDict h⟩
theorem ty_tup {K : PySem.W.Frag} {H : Hp} {a : Addr} {xs : List V} (h : SqT K H a xs) : TyX K H (.ref a) (.type "tuple") := by
  rcases h with (h | ⟨z, h⟩) | h
  · exact .base (.tup h)
  · exact .fTuple h
  · obtain ⟨o, its, n, h1, h2, _⟩ := h
    exact .kTuple h1 h2
instance {K : PySem.W.Frag} {α : Type} {t : α → Pv} : HasTy K (fun xs : List α => yTup K t xs) "tuple" := ⟨fun x S H v ⟨a, vs, e, h, _⟩ => e ▸ ty_tup h⟩
instance {K : PySem.W.Frag} {α β : Type} {t : α → Pv} {u : β → Pv} : HasTy K (yPr K t u) "tuple" := ⟨fun x S H v ⟨a, vs, e, h, _⟩ => e ▸ ty_tup h⟩
instance {K : PySem.W.Frag} {α β γ : Type} {t : α → Pv} {u : β → Pv} {w : γ → Pv} : HasTy K (yTr K t u w) "tuple" := ⟨fun x S H v ⟨a, vs, e, h, _⟩ => e ▸ ty_tup h⟩
instance {K : PySem.W.Frag} {α : Type} {t : α → Pv} : HasTy K (fun xs : List α => yLst K t xs) "list" := ⟨fun x S H v ⟨a, vs, e, h, _⟩ => e ▸ (by
  rcases h.1 with (h | ⟨z, h⟩) | ⟨o, its, n, h1, h2, _⟩
  · exact .base (.lst h)
  · exact .base (.frz h)
  · exact .kList h1 h2)⟩
section
variable {ρ : Type} {A : Nat → Addr} {E E' : L2.St → XK} {K : PySem.W.Frag} {Γ : Ctx} {c : Res ρ} {κ : Ctx → Vo → Res ρ → Prop} {P P' : Pv} {ps qs : List Pv} {α β : Type} {t : α → Pv} {td ty tx te ta tb : TE} {tr : TA} {Δ : Dl ρ} {i : Nat} {C : Addr}
theorem wx_makeP (h : κ Γ (.val (yKind C ())) c) : WX A E Γ (Sl.tMakeP C) c κ := fun F T S σ H Q O R hc k => fun x dx hx hd ne => by
  have R1 := R.new (o := .own x) hd
  have hx1 : upd H dx (.own x) x = none := by rw [upd_ne (Ne.symm ne)]; exact hx
  have R2 := R1.newF (o := .ins C dx []) hx1
  exact k _ _ _ h _ _ _ R2 ((le_new hd).trans (le_newF hx1)) ⟨x, dx, [], rfl, .inr rfl, upd_same, trivial⟩ hc
/-- o.m(..), o an object that does not change -/
theorem wx_meth {m : Str} {pre : List Ar → Cl → Prop} (h : WX A E Γ ta c fun Γ1 V c1 => ∃ fs, V = .val (pObj C fs) ∧ (fs.map (·.1)).contains m = false ∧ WA A E Γ1 tr c1 fun Γ2 gs c2 => RC A E (fun σ vs H Q => spM A pre vs H Q (E' σ)) (.val (pObj C fs) :: gs) Γ2 c2 κ) : WX A E Γ (Sl.tMethO C m (spM A pre) [] E' ta tr) c κ := fun F T S σ H Q O R hc k => by
  refine h F T S σ H _ O R hc fun Γ1 V c1 h1 S1 H1 x R1 l1 p1 hc1 => ?_
  obtain ⟨fs, rfl, hm, h1⟩ := h1
  obtain ⟨a, dx, vs, rfl, hs, ha, hf⟩ := p1
  refine ⟨a, dx, vs, rfl, ha, hf.none hm, h1 F T S1 σ H1 _ O R1 hc1 fun Γ2 gs c2 h2 S2 H2 ws R2 l2 p2 hc2 => ?_⟩
  show spM A pre ((.ref a :: ws) ++ []) H2 Q (E' σ)
  rw [List.append_nil]
  exact h2 F T S2 σ H2 _ Q O R2 hc2 ⟨⟨a, dx, vs, rfl, l2.fz a hs, l2.ins ha hs, hf.up l2⟩, p2⟩ fun Γ' V c' q S' H' v R' l => k Γ' V c' q S' H' v R' ((l1.trans l2).trans l)
/-! ### lists that are owned -/
theorem psnoc_of {xs : List α} {y : α} {k : List α → Res ρ} {T : Res ρ → Prop} (nb : ¬ T .bad) (h : T ((psnoc xs y).bind k)) : xs.length < 100000 ∧ T (k (xs ++ [y])) := by
  unfold psnoc at h
  by_cases z : xs.length < 100000
  · rw [if_pos z] at h; exact ⟨z, h⟩
  · rw [if_neg z] at h; exact absurd h nb
/-- xs.append(e): the list is i's own; e may change what is held -/
theorem ws_append (t : α → Pv) {b : Bool} {xs0 : List α} (hg : Γ[i]? = some (.own b (wLst K t xs0))) (h : WX A E Γ te c fun Γ1 V c1 => ∃ b xs y k, V = .val (t y) ∧ Γ1[i]? = some (.own b (wLst K t xs)) ∧ c1 = (psnoc xs y).bind k ∧ ∀ zs, Δ.nx (Γ1.set i (.own b (wLst K t zs))) (k zs)) :
    WS A E Γ (tDrop (tBM K "list" rAppend (tVar i) (tCons te tNil))) c Δ := fun F T S σ H D O R hc d => by
  obtain ⟨a, o, e1, e2, ⟨vs, rfl, e3, _⟩, e4, e5, _⟩ := R.own i b _ hg
  refine ⟨_, e1, .inl ⟨rfl, vs, .inl (.inl e2)⟩, ?_⟩
  refine h F T S σ H _ (O σ) R hc fun Γ1 V c1 h1 S1 H1 x R1 l1 p1 hc1 => ?_
  obtain ⟨b', xs, y, k, rfl, hg1, rfl, h1⟩ := h1
  obtain ⟨hl, hT⟩ := psnoc_of (O σ).nb hc1
  obtain ⟨a', o, w1, w2, ⟨ws, rfl, w3, w4⟩, w5, w6, _⟩ := R1.own i b' _ hg1
  rw [e1] at w1; cases w1
  have hlen : ws.length = xs.length := by have := w3.length; rwa [List.length_map] at this
  have lm := le_mut (o' := .lst (ws ++ [x])) w2 w5 rfl
  have hw : (wLst K t (xs ++ [y])).w S1 (upd H1 a (.lst (ws ++ [x]))) (.lst (ws ++ [x])) := ⟨_, rfl, by rw [List.map_append]; exact (w3.snoc p1).up lm, sz (by rw [List.length_append]; simp; omega)⟩
  obtain ⟨l2, R2⟩ := R1.mut (O' := wLst K t (xs ++ [y])) (o' := .lst (ws ++ [x])) hg1 e1 fun _ _ _ => hw
  exact ⟨a, ws, x, rfl, rfl, w2, szl (by omega), d.nx _ _ (h1 _) S1 σ _ R2 (l1.trans l2) hT⟩
/-- xs[k] = e, the list is i's own -/
theorem pset_of {xs : List α} {z : Int} {y : α} {k : List α → Res ρ} {T : Res ρ → Prop} (nb : ¬ T .bad) (h : T ((pset xs z y).bind k)) : ∃ j, ixN xs.length z = some j ∧ T (k (xs.set j y)) := by
  unfold pset at h
  cases e : ixN xs.length z with
  | none => rw [e] at h; exact absurd h nb
  | some j => rw [e] at h; exact ⟨j, rfl, h⟩
theorem ws_lset (t : α → Pv) (h : WX A E Γ te c fun Γ1 V c1 => ∃ y, V = .val (t y) ∧ (∃ b O, Γ1[i]? = some (.own b O)) ∧ WX A E Γ1 ty c1 fun Γ2 V2 c2 => ∃ b xs z k, V2 = .val (yInt z) ∧ Γ2[i]? = some (.own b (wLst K t xs)) ∧ c2 = (pset xs z y).bind k ∧ ∀ zs, Δ.nx (Γ2.set i (.own b (wLst K t zs))) (k zs)) :
    WS A E Γ (tAsg te (gSub (tVar i) ty rSetL)) c Δ := fun F T S σ H D O R hc d => by
  refine h F T S σ H _ (O σ) R hc fun Γ1 V c1 h1 S1 H1 x R1 l1 p1 hc1 => ?_
  obtain ⟨y, rfl, ⟨b0, O0, hg0⟩, h1⟩ := h1
  obtain ⟨a0, o0, e0, _⟩ := R1.own i b0 _ hg0
  refine ⟨_, e0, ?_⟩
  refine h1 F T S1 σ H1 _ (O σ) R1 hc1 fun Γ2 V c2 h2 S2 H2 w R2 l2 p2 hc2 => ?_
  obtain ⟨b', xs, z, k, rfl, hg1, rfl, h2⟩ := h2
  obtain ⟨j, hj, hT⟩ := pset_of (O σ).nb hc2
  obtain ⟨a', o, w1, w2, ⟨ws, rfl, w3, w4⟩, w5, w6, _⟩ := R2.own i b' _ hg1
  rw [e0] at w1; cases w1
  have hlen : ws.length = xs.length := by have := w3.length; rwa [List.length_map] at this
  have lm := le_mut (o' := .lst (ws.set j x)) w2 w5 rfl
  have hw : (wLst K t (xs.set j y)).w S2 (upd H2 a0 (.lst (ws.set j x))) (.lst (ws.set j x)) := ⟨_, rfl, by rw [List.map_set]; exact (w3.set j ((t y).up l2 p1)).up lm, by rw [List.length_set]; exact w4⟩
  obtain ⟨l3, R3⟩ := R2.mut (O' := wLst K t (xs.set j y)) (o' := .lst (ws.set j x)) hg1 e0 fun _ _ _ => hw
  exact ⟨a0, ws, z, j, rfl, p2, w2, by rw [hlen]; exact hj, d.nx _ _ (h2 _) S2 σ _ R3 ((l1.trans l2).trans l3) hT⟩
/-! reads of what is owned: afterwards it is owned still -/
def frzC : Ctx → Ctx
  | [] => []
  | .own _ O :: Γ => .val O.pv :: frzC Γ
  | x :: Γ => x :: frzC Γ
theorem frzC_len : ∀ Γ : Ctx, (frzC Γ).length = Γ.length
  | [] => rfl
  | .own _ _ :: Γ => congrArg Nat.succ (frzC_len Γ)
  | .any :: Γ => congrArg Nat.succ (frzC_len Γ)
  | .val _ :: Γ => congrArg Nat.succ (frzC_len Γ)
theorem frzC_at : ∀ {Γ : Ctx} {i : Nat} {x : Slt}, (frzC Γ)[i]? = some x → (∃ b O, Γ[i]? = some (.own b O) ∧ x = .val O.pv) ∨ (Γ[i]? = some x ∧ ∀ b O, x ≠ .own b O)
  | [], _, _, h => by simp [frzC] at h
  | .own b O :: Γ, 0, x, h => by simp only [frzC, List.getElem?_cons_zero] at h; cases h; exact .inl ⟨b, O, rfl, rfl⟩
  | .any :: Γ, 0, x, h => by simp only [frzC, List.getElem?_cons_zero] at h; cases h; exact .inr ⟨rfl, fun _ _ z => nomatch z⟩
  | .val _ :: Γ, 0, x, h => by simp only [frzC, List.getElem?_cons_zero] at h; cases h; exact .inr ⟨rfl, fun _ _ z => nomatch z⟩
  | .own _ _ :: Γ, i + 1, x, h => frzC_at (Γ := Γ) (i := i) (by simpa [frzC] using h)
  | .any :: Γ, i + 1, x, h => frzC_at (Γ := Γ) (i := i) (by simpa [frzC] using h)
  | .val _ :: Γ, i + 1, x, h => frzC_at (Γ := Γ) (i := i) (by simpa [frzC] using h)
theorem Rel.peek {F : Fr} {S : Fz} {σ : L2.St} {H : Hp} (R : Rel F Γ S σ H) : Rel (F.at (fun a => S a ∨ Held Γ σ a) H fun _ => False) (frzC Γ) (fun a => S a ∨ Held Γ σ a) σ H := by
  have l : Le S H (fun a => S a ∨ Held Γ σ a) H := .ex (fun _ h => .inl h) (fun _ _ h _ => h)
  refine ⟨⟨fun _ _ h _ => h, fun _ h => .inl h, fun _ h => h, fun _ h => h, fun a h => h.elim (R.fr.sd a) fun z => z.dom R⟩, R.len.trans (frzC_len Γ).symm, fun i P h => ?_, fun i b O h => ?_, fun i j b b' O O' a h => ?_⟩
  · rcases frzC_at h with ⟨b, O, h1, h2⟩ | ⟨h1, _⟩
    · cases h2
      obtain ⟨a, o, e1, e2, e3, _⟩ := R.own i b O h1
      exact ⟨_, e1, O.to (.inr ⟨i, b, O, h1, e1⟩) e2 (O.up l e3)⟩
    · obtain ⟨v, e, hv⟩ := R.val i P h1
      exact ⟨v, e, P.up l hv⟩
  · rcases frzC_at h with ⟨_, _, _, h2⟩ | ⟨_, h2⟩
    · cases h2
    · exact absurd rfl (h2 b O)
  · rcases frzC_at h with ⟨_, _, _, h2⟩ | ⟨_, h2⟩
    · cases h2
    · exact absurd rfl (h2 b O)
theorem Rel.unpeek {F : Fr} {S S' : Fz} {σ : L2.St} {H H' : Hp} (R : Rel F Γ S σ H) (f : FrOk (F.at (fun a => S a ∨ Held Γ σ a) H fun _ => False) S' H') : Rel F Γ S σ H' ∧ Le S H S H' := by
  have l : Le S H S H' := .ex (fun _ h => h) fun a o h _ => f.kp a o h fun z => z
  refine ⟨R.move l (fun a o h _ => f.kp a o h fun z => z) (fun a h => .inl h) (fun a h => f.dm a (R.fr.sd a h)) (fun a h => f.dm a h) fun i b O a o _ _ h1 h2 => ⟨o, f.kp a o h1 fun z => z, O.up l h2⟩, l⟩
/-- a value that no list stands in -/
def Imm (P : Pv) : Prop := ∀ S S' H v, P.p S H v → P.p S' H v
theorem wx_peek (h : WX A E (frzC Γ) te c fun Γ' V c' => ∃ P, V = .val P ∧ Imm P ∧ κ Γ (.val P) c') : WX A E Γ te c κ := fun F T S σ H Q O R hc k => by
  refine h _ T _ σ H _ ⟨O.nb, fun e z S' H' f => O.er e z S' H' ?_⟩ R.peek hc fun Γ' V c' q S' H' v R' l hv hc' => ?_
  · refine ⟨fun a o h n => f.kp a o (R.fr.kp a o h n) fun z => z, fun a h => ?_, fun a h => f.le a (.inl (R.fr.le a h)), fun a h => f.dm a (R.fr.dm a h), f.sd⟩
    rcases f.fz a h with h | h | h
    · exact h.elim (R.fr.fz a) fun h => (R.hI a h).elim (fun z => .inr (.inr z)) fun z => .inr (.inl z)
    · exact .inr (.inl (R.fr.fresh h))
    · exact h.elim
  · obtain ⟨P, rfl, im, q⟩ := q
    obtain ⟨R2, l2⟩ := R.unpeek R'.fr
    exact k _ _ _ q S H' v R2 l2 (im _ _ _ _ hv) hc'
theorem imm_int {i : Int} : Imm (yInt i) := fun _ _ _ _ h => h
theorem imm_str {i : Str} : Imm (yStr i) := fun _ _ _ _ h => h
theorem imm_bl {i : Bool} : Imm (yBl i) := fun _ _ _ _ h => h
theorem imm_ps {S S' : Fz} {H : Hp} : ∀ {vs : List V} {ps : List Pv}, (∀ P ∈ ps, Imm P) → PsOk S H vs ps → PsOk S' H vs ps
  | [], [], _, _ => trivial
  | [], _ :: _, _, h => False.elim h
  | _ :: _, [], _, h => False.elim h
  | _ :: _, P :: ps, k, h => ⟨k P (List.mem_cons_self ..) _ _ _ _ h.1, imm_ps (fun Q hq => k Q (List.mem_cons_of_mem _ hq)) h.2⟩
theorem imm_tup (h : ∀ P ∈ ps, Imm P) : Imm (pTup K ps) := fun _ _ _ _ ⟨a, vs, h1, h2, h3, h4⟩ => ⟨a, vs, h1, h2, imm_ps h h3, h4⟩
theorem imm_yTup {xs : List α} (h : ∀ x, Imm (t x)) : Imm (yTup K t xs) := imm_tup fun P hP => by
  obtain ⟨x, _, rfl⟩ := List.mem_map.mp hP
  exact h x
/-! ### raise, try -/
theorem ws_raise0 {s : TS} {n : Nat} (hE : ∀ D σ H, E σ (.ref (A n)) none H → s D σ H) (hc : c = .err ⟨n, .no⟩) : WS A E Γ s c Δ := fun F T S σ H D O R hT d => by
  subst hc
  exact hE D σ H ((O σ).er _ hT S H R.fr)
/-! ### dicts -/
theorem wx_dnew (h : κ Γ (.own (oDct [])) c) : WX A E Γ tDNewK c κ := fun F T S σ H Q O R hc k => fun p hp => k _ _ _ h S _ _ (R.new hp) (le_new hp) (isOwn R hp ⟨[], rfl, trivial, Nat.zero_le _⟩) hc
section
variable {κ' : Type} [DecidableEq κ'] {tk : κ' → Pv} [KV : KeyV κ' tk]
theorem pdget_of {d : List (κ' × α)} {x : κ'} {k : α → Res ρ} {T : Res ρ → Prop} (nb : ¬ T .bad) (h : T ((pdget d x).bind k)) : ∃ y, dlook d x = some y ∧ T (k y) := by
  unfold pdget at h
  cases e : dlook d x with
  | none => rw [e] at h; exact absurd h nb
  | some y => rw [e] at h; exact ⟨y, rfl, h⟩
theorem wx_dget (h : WX A E Γ td c fun Γ1 V c1 => ∃ d : List (κ' × α), V = .val (yDct t d) ∧ WX A E Γ1 ty c1 fun Γ2 V2 c2 => ∃ x k, V2 = .val (tk x) ∧ c2 = (pdget d x).bind k ∧ ∀ y, κ Γ2 (.val (t y)) (k y)) : WX A E Γ (tDGet td ty) c κ := fun F T S σ H Q O R hc kk => by
  refine h F T S σ H _ O R hc fun Γ1 V c1 h1 S1 H1 v R1 l1 p1 hc1 => ?_
  obtain ⟨d, rfl, h1⟩ := h1
  refine h1 F T S1 σ H1 _ O R1 hc1 fun Γ2 V c2 h2 S2 H2 w R2 l2 p2 hc2 => ?_
  obtain ⟨x, k, rfl, rfl, h2⟩ := h2
  obtain ⟨y, hy, hT⟩ := pdget_of O.nb hc2
  obtain ⟨a, kvs, rfl, hs, hr, hk, hl⟩ := (yDct t d).up l2 p1
  obtain ⟨v, e, hp⟩ := (hk.look (k := x)).1 y hy
  have ew := KV.is _ _ _ _ p2
  subst ew
  exact ⟨a, v, rfl, .inl ⟨kvs, _, hr, rfl, e.symm⟩, kk _ _ _ (h2 y) S2 H2 v R2 (l1.trans l2) hp hT⟩
/-- d.get(k, x) -/
theorem wx_dget2 (h : WX A E Γ td c fun Γ1 V c1 => ∃ d : List (κ' × α), V = .val (yDct t d) ∧ WX A E Γ1 ty c1 fun Γ2 V2 c2 => ∃ x, V2 = .val (tk x) ∧ WX A E Γ2 tx c2 fun Γ3 V3 c3 => ∃ y, V3 = .val (t y) ∧ κ Γ3 (.val (t (dgetD d x y))) c3) : WX A E Γ (tDGet2 td ty tx) c κ := fun F T S σ H Q O R hc kk => by
  refine h F T S σ H _ O R hc fun Γ1 V c1 h1 S1 H1 v R1 l1 p1 hc1 => ?_
  obtain ⟨d, rfl, h1⟩ := h1
  have p1' := p1
  obtain ⟨a, kvs, rfl, hs, hr, hk, hl⟩ := p1
  refine ⟨a, rfl, .inl ⟨kvs, hr⟩, ?_⟩
  refine h1 F T S1 σ H1 _ O R1 hc1 fun Γ2 V c2 h2 S2 H2 w R2 l2 p2 hc2 => ?_
  obtain ⟨x, rfl, h2⟩ := h2
  refine h2 F T S2 σ H2 _ O R2 hc2 fun Γ3 V c3 h3 S3 H3 z R3 l3 p3 hc3 => ?_
  obtain ⟨y, rfl, h3⟩ := h3
  obtain ⟨a', kvs', e, hs', hr', hk', hl'⟩ := (yDct t d).up (l2.trans l3) p1'
  cases e
  have ew := KV.is _ _ _ _ ((tk x).up l3 p2)
  subst ew
  refine ⟨_, .inl ⟨kvs', _, hr', rfl, rfl⟩, ?_⟩
  obtain ⟨q1, q2⟩ := hk'.look (k := x)
  have l := (l1.trans l2).trans l3
  cases e : dlook d x with
  | none =>
    rw [q2 e]
    exact kk _ _ _ h3 S3 H3 z R3 l (by unfold dgetD; rw [e]; exact p3) hc3
  | some u =>
    obtain ⟨v, e', hp⟩ := q1 u e
    rw [e']
    exact kk _ _ _ h3 S3 H3 v R3 l (by unfold dgetD; rw [e]; exact hp) hc3
/-- d[k] = v, d the slot's own -/
theorem pdput_of {d : List (κ' × α)} {x : κ'} {y : α} {k : List (κ' × α) → Res ρ} {T : Res ρ → Prop} (nb : ¬ T .bad) (h : T ((pdput d x y).bind k)) : d.length < 100000 ∧ T (k (dput d x y)) := by
  unfold pdput at h
  by_cases z : d.length < 100000
  · rw [if_pos z] at h; exact ⟨z, h⟩
  · rw [if_neg z] at h; exact absurd h nb
theorem putK_len {kvs : List (Key × V)} {k : Key} {v : V} : (putK kvs k v).length ≤ kvs.length + 1 := by
  unfold putK
  split
  · rw [List.length_map]; omega
  · rw [List.length_append]; simp
theorem ws_dput (h : WX A E Γ te c fun Γ1 V1 c1 => ∃ y, V1 = .val (t y) ∧ (∃ b O, Γ1[i]? = some (.own b O)) ∧ WX A E Γ1 ty c1 fun Γ2 V2 c2 => ∃ b x k, ∃ d : List (κ' × α), V2 = .val (tk x) ∧ Γ2[i]? = some (.own b (wDct t d)) ∧ c2 = (pdput d x y).bind k ∧ ∀ d', Δ.nx (Γ2.set i (.own b (wDct t d'))) (k d')) :
    WS A E Γ (sDPut (tVar i) ty te) c Δ := fun F T S σ H D O R hc dd => by
  refine h F T S σ H _ (O σ) R hc fun Γ1 V c1 h1 S1 H1 v R1 l1 p1 hc1 => ?_
  obtain ⟨y, rfl, ⟨b0, O0, hg0⟩, h1⟩ := h1
  obtain ⟨a0, o0, e0, _⟩ := R1.own i b0 _ hg0
  refine ⟨_, e0, ?_⟩
  refine h1 F T S1 σ H1 _ (O σ) R1 hc1 fun Γ2 V c2 h2 S2 H2 w R2 l2 p2 hc2 => ?_
  obtain ⟨b, x, k, d, rfl, hg, rfl, h2⟩ := h2
  obtain ⟨hl, hT⟩ := pdput_of (O σ).nb hc2
  obtain ⟨a, o, w1, w2, ⟨kvs, rfl, w3, w4⟩, w5, w6, _⟩ := R2.own i b _ hg
  rw [e0] at w1; cases w1
  have ew := KV.is _ _ _ _ p2
  subst ew
  have hlen : kvs.length = d.length := by rw [w3.len, kpl, List.length_map]
  have lm := le_mut (o' := .dK (putK kvs (KV.ky x) v)) w2 w5 rfl
  have hw : (wDct t (dput d x y)).w S2 (upd H2 a0 (.dK (putK kvs (KV.ky x) v))) (.dK (putK kvs (KV.ky x) v)) := ⟨_, rfl, (w3.put ((t y).up l2 p1)).up lm, by have := putK_len (kvs := kvs) (k := KV.ky x) (v := v); exact Nat.le_trans this (sz (by omega))⟩
  obtain ⟨l3, R3⟩ := R2.mut (O' := wDct t (dput d x y)) (o' := .dK (putK kvs (KV.ky x) v)) hg e0 fun _ _ _ => hw
  exact ⟨a0, _, rfl, DPut.k w2 (szl (by omega)), dd.nx _ _ (h2 _) S2 σ _ R3 ((l1.trans l2).trans l3) hT⟩
end
/-! min, max with a default -/
end
end Mi
namespace Mi
open PySem PySem.Spec PyProof.Rows L2
open Sl (isTup sz szl slt)
theorem imm_pr {K : PySem.W.Frag} {α β : Type} {t : α → Pv} {u : β → Pv} {x : α × β} (h1 : Imm (t x.1)) (h2 : Imm (u x.2)) : Imm (yPr K t u x) := imm_tup fun P hP => by
  simp only [List.mem_cons, List.not_mem_nil, or_false] at hP
  rcases hP with rfl | rfl
  · exact h1
  · exact h2
theorem kpl_len {κ α : Type} [DKey κ] {t : α → Pv} {d : List (κ × α)} : (kpl t d).length = d.length := by simp [kpl]
theorem kpl_keys {κ α : Type} [DKey κ] {t : α → Pv} {d : List (κ × α)} : (kpl t d).map (·.1) = (dkeys d).map DKey.ky := by simp [kpl, dkeys]
section
variable {ρ : Type} {A : Nat → Addr} {E E' : L2.St → XK} {K : PySem.W.Frag} {Γ : Ctx} {c : Res ρ} {κ : Ctx → Vo → Res ρ → Prop} {pre : List Ar → Cl → Prop} {gs : List Ag} {ps : List Pv} {t : TE} {tr : TA}
/-- a list, a tuple as either -/
theorem wx_toSeqL (h : WX A E Γ t c fun Γ' V c' => ∃ ps, V = .val (pLst K ps) ∧ κ Γ' (.val (pSeq K ps)) c') : WX A E Γ t c κ := fun F T S σ H Q O R hc k =>
  h F T S σ H Q O R hc fun Γ' V c' ⟨ps, e, q⟩ S' H' v R' l hv => k Γ' _ c' q S' H' v R' l (by subst e; exact .inl hv)
theorem wx_toSeqT (h : WX A E Γ t c fun Γ' V c' => ∃ ps, V = .val (pTup K ps) ∧ κ Γ' (.val (pSeq K ps)) c') : WX A E Γ t c κ := fun F T S σ H Q O R hc k =>
  h F T S σ H Q O R hc fun Γ' V c' ⟨ps, e, q⟩ S' H' v R' l hv => k Γ' _ c' q S' H' v R' l (by subst e; exact .inr hv)
/-- def f(.., *v) -/
theorem ags_split {σ : L2.St} {S : Fz} {H : Hp} : ∀ {gs : List Ag} {vs : List V} {ps : List Pv}, AgsOk σ S H vs (gs ++ vals ps) → ∃ ws rest, vs = ws ++ rest ∧ ws.length = gs.length ∧ AgsOk σ S H ws gs ∧ PsOk S H rest ps
  | [], vs, ps, h => ⟨[], vs, rfl, rfl, trivial, h.pvs⟩
  | g :: gs, [], ps, h => False.elim h
  | g :: gs, v :: vs, ps, h => by
    obtain ⟨ws, rest, e1, e2, e3, e4⟩ := ags_split (gs := gs) h.2
    exact ⟨v :: ws, rest, by rw [e1]; rfl, congrArg Nat.succ e2, ⟨h.1, e3⟩, e4⟩
theorem AgsOk.snoc {σ : L2.St} {S : Fz} {H : Hp} {v : V} {g : Ag} : ∀ {vs : List V} {gs : List Ag}, AgsOk σ S H vs gs → g.is σ S H v → AgsOk σ S H (vs ++ [v]) (gs ++ [g])
  | [], [], _, h => ⟨h, trivial⟩
  | [], _ :: _, h, _ => False.elim h
  | _ :: _, [], h, _ => False.elim h
  | _ :: _, _ :: _, h, k => ⟨h.1, AgsOk.snoc h.2 k⟩
theorem rc_star (gs : List Ag) (hl : ps.length ≤ 1000) (h : RC A E (fun σ vs H Q => spM A pre vs H Q (E' σ)) (gs ++ [.val (pTup K ps)]) Γ c κ) : RC A E (fun σ vs H Q => Sl.star gs.length (spM A pre) vs H Q (E' σ)) (gs ++ vals ps) Γ c κ := fun F T S σ H vs Q O R hc hg k => by
  obtain ⟨ws, rest, rfl, e2, e3, e4⟩ := ags_split hg
  have hz : rest.length ≤ sizeLine := sz (by rw [e4.length]; omega)
  exact ⟨ws, rest, rfl, e2, hz, fun p hp => h F T S σ _ _ Q O (R.new hp) hc ((e3.up (le_new hp)).snoc ⟨p, rest, rfl, .inl (.inl upd_same), e4.up (le_new hp), hz⟩) fun Γ' V c' q S' H' v R' l => k Γ' V c' q S' H' v R' ((le_new hp).trans l)⟩
theorem wx_callF {E1 : XK} {n : Nat} (h : WA A E Γ tr c fun Γ1 gs c1 => RC A E (fun _ vs H Q => Sl.star n (spM A pre) vs H Q E1) gs Γ1 c1 κ) : WX A E Γ (fun σ H Q => tr σ H fun vs H1 => Sl.star n (spM A pre) vs H1 Q E1) c κ := fun F T S σ H Q O R hc k => by
  refine h F T S σ H _ O R hc fun Γ1 gs c1 h1 S1 H1 xs R1 l1 p1 hc1 => ?_
  exact h1 F T S1 σ H1 xs Q O R1 hc1 p1 fun Γ' V c' q S' H' v R' l => k Γ' V c' q S' H' v R' (l1.trans l)
end
section
variable {A : Nat → Addr} {K : PySem.W.Frag}
theorem law_imp {f : List Int → Res Bool} {pre : List Ar → Cl → Prop} (hp : ∀ ns, pre [.val (yLst K yInt ns)] ⟨Bool, f ns, fun r => .val (yBl r), fun _ => []⟩) (hl : ∀ ns : List Int, ns.length ≤ 63 → f ns = .ok true) {vs : List V} {H : Hp} {Q : VK} {E : XK}
    (h : ∃ (a : Addr) (ns : List Int), vs = [.ref a] ∧ SqL K H a (ns.map V.int) ∧ ns.length ≤ 63 ∧ ∀ H', Q (.bl true) H') : spM A pre vs H Q E := by
  obtain ⟨a, ns, rfl, hs, hn, q⟩ := h
  have e := hl ns hn
  have key : ∀ S : Fz, LsF K S H a (ns.map V.int) → (∀ b, S b → H b ≠ none) → spM A pre [.ref a] H Q E := fun S h1 h2 => by
    refine ⟨S, _, _, hp ns, ⟨⟨a, _, rfl, h1, of_ints ns, sz (by rw [List.length_map]; omega)⟩, trivial⟩, List.nodup_nil, h2, by show f ns ≠ _; rw [e]; exact fun z => (nomatch z), fun r hr S' H' v _ _ hv => ?_, fun er z => ?_⟩
    · have hr : f ns = .ok r := hr
      rw [e] at hr; cases hr
      have hv : v = .bl true := hv
      rw [hv]; exact q H'
    · have z : f ns = .err er := z
      rw [e] at z; cases z
  rcases hs with hr | hk
  · refine key (fun b => b = a) ⟨.inl hr, .inl ⟨rfl, hr⟩⟩ fun b z => ?_
    subst z
    rcases hr with hr | ⟨o, hr⟩ <;> rw [hr] <;> exact fun z => nomatch z
  · exact key (fun _ => False) ⟨.inr hk, .inr fun H' => .inr hk⟩ fun _ z => z.elim
end
end Mi
namespace Mi
open PySem PySem.Spec PyProof.Rows L2
open Sl (isTup sz szl slt)
open NdefX (startF)
/-! ### a new object handed to a def that changes it -/
section
variable {ρ : Type} {A : Nat → Addr} {E : L2.St → XK} {E1 : XK} {K : PySem.W.Frag} {Γ : Ctx} {c : Res ρ} {κ : Ctx → Vo → Res ρ → Prop} {pre : List Ar → Cl → Prop} {te : TE} {tr : TA}
theorem ars_vals {S : Fz} {H : Hp} {σ : L2.St} : ∀ {vs : List V} {ps : List Pv}, AgsOk σ S H vs (vals ps) → ArsOk S H vs (ps.map Ar.val) ∧ ioAd vs (ps.map Ar.val) = []
  | [], [], _ => ⟨trivial, rfl⟩
  | [], _ :: _, h => False.elim h
  | _ :: _, [], h => False.elim h
  | v :: vs, P :: ps, h => by
    obtain ⟨q1, q2⟩ := ars_vals (vs := vs) (ps := ps) h.2
    exact ⟨⟨h.1, q1⟩, by cases v <;> exact q2⟩
theorem wx_callT (h : WX A E Γ te c fun Γ1 V c1 => ∃ O, V = .own O ∧ WA A ET Γ1 tr c1 fun Γ2 gs c2 => Γ2 = Γ1 ∧ ∃ (ps : List Pv) (d : Cl) (k : d.β → Res ρ), gs = vals ps ∧ pre (.io O :: ps.map Ar.val) d ∧ c2 = d.m.bind k ∧ (∀ e, d.m ≠ .err e) ∧ ∀ r, d.m = .ok r → κ Γ1 (d.V r) (k r)) : WX A E Γ (tCall (spM A pre) [] E1 (tCons te tr)) c κ := fun F T S σ H Q O R hc kk => by
  refine h F T S σ H _ O R hc fun Γ1 V c1 h1 S1 H1 x R1 l1 p1 hc1 => ?_
  obtain ⟨Ow1, rfl, h1⟩ := h1
  obtain ⟨a, o, rfl, ha, hw, ns, hI, nh⟩ := p1
  refine h1 (F.at S1 H1 (Held Γ1 σ)) T S1 σ H1 _ ⟨O.nb, fun e z S' H' f => erT A⟩ R1.enter hc1 fun Γ2 gs c2 h2 S2 H2 ws R2 l2 p2 hc2 => ?_
  obtain ⟨rfl, ps, d, k, rfl, hp, rfl, he, hk⟩ := h2
  have ha2 : H2 a = some o := R2.fr.kp a o ha nh
  have ns2 : ¬ S2 a := fun z => by
    rcases R2.fr.fz a z with w | w | w
    · exact ns w
    · have w : H1 a = none := w
      rw [ha] at w; cases w
    · exact nh w
  have R3 : Rel F Γ2 S2 σ H2 := R1.leave R2
  have nh3 : ¬ Held Γ2 σ a := nh
  obtain ⟨q1, q2⟩ := ars_vals p2
  have eio : ioAd (.ref a :: ws) (.io Ow1 :: ps.map Ar.val) = [a] := by show a :: ioAd ws (ps.map Ar.val) = [a]; rw [q2]
  show spM A pre ((.ref a :: ws) ++ []) H2 Q E1
  rw [List.append_nil]
  refine ⟨S2, _, d, hp, ⟨⟨a, o, rfl, ha2, Ow1.up l2 hw, ns2⟩, q1⟩, by rw [eio]; simp, R3.fr.sd, fun z => by rw [z] at hc2; exact O.nb hc2, fun r hr S' H' v f ho hv => ?_, fun e z => absurd z (he e)⟩
  rw [eio] at f
  have fk : ∀ b o, H2 b = some o → b ≠ a → H' b = some o := fun b o h n => f.kp b o h fun z => n (List.mem_singleton.mp z)
  have l3 : Le S2 H2 S' H' := .ex f.le fun b u h w => fk b u h fun z => by
    subst z
    rw [ha2] at h; cases h
    rcases w with w | w
    · exact ns2 w
    · rw [Ow1.nt (Ow1.up l2 hw)] at w; cases w
  have fz' : ∀ b, S' b → S2 b ∨ H2 b = none ∨ b = a := fun b z => (f.fz b z).imp id fun z => z.imp id fun z => List.mem_singleton.mp z
  have R4 : Rel F Γ2 S' σ H' := by
    refine ⟨R3.fr.comp (I := fun b => b ∈ [a]) ⟨f.kp, f.fz, f.le, f.dm, f.sd⟩ fun b z => by rw [List.mem_singleton.mp z]; exact hI, R3.len, fun i P e => ?_, fun i b O' e => ?_, R3.sep⟩
    · obtain ⟨w, e1, e2⟩ := R3.val i P e
      exact ⟨w, e1, P.up l3 e2⟩
    · obtain ⟨b', u, e1, e2, e3, e4, e5, e6⟩ := R3.own i b O' e
      have n : b' ≠ a := fun z => nh3 ⟨i, b, O', e, by rw [e1, z]⟩
      exact ⟨b', u, e1, fk b' u e2 n, O'.up l3 e3, fun z => (fz' b' z).elim e4 fun z => z.elim (fun z => by rw [e2] at z; cases z) n, e5, e6⟩
  refine kk _ _ _ (hk r hr) S' H' v R4 ((l1.trans l2).trans l3) ?_ (by rw [hr] at hc2; exact hc2)
  cases ev : d.V r with
  | val P => rw [ev] at hv; exact hv
  | own O' =>
    rw [ev] at hv
    obtain ⟨b, u, rfl, w2, w3, w4, w5⟩ := hv
    refine ⟨b, u, rfl, w2, w3, w4, .inr (R3.fr.fresh w5), fun z => z.dom R3 w5⟩
end
/-! ### return super().m(..) and .. -/
/-! ### try: x = f(..) except C as e -/
section
variable {ρ : Type} {A : Nat → Addr} {E : L2.St → XK} {K : PySem.W.Frag} {Γ : Ctx} {c : Res ρ} {κ : Ctx → Vo → Res ρ → Prop} {Δ : Dl ρ} {α : Type} {te : Ends → TE} {i j n : Nat} {c0 : Value} {ts : Addr → Value → Option Addr → TS} {Wout : L2.WX}
/-- what may be None, where it is not -/
def punwrap {α : Type} : Option α → Res α
  | some x => .ok x
  | none => .bad
theorem wx_unw {te : TE} (t : α → Pv) (h : WX A E Γ te c fun Γ' V c' => ∃ x k, V = .val (yOpt t x) ∧ c' = (punwrap x).bind k ∧ ∀ y, κ Γ' (.val (t y)) (k y)) : WX A E Γ te c κ := fun F T S σ H Q O R hc kk =>
  h F T S σ H Q O R hc fun Γ' V c' ⟨x, k, e, e2, q⟩ S' H' v R' l hv hc' => by
    subst e; subst e2
    cases x with
    | none => exact absurd hc' O.nb
    | some y => exact kk Γ' _ _ (q y) S' H' v R' l hv hc'
instance : Scal (Option Int) (yOpt yInt) := ⟨fun x => match x with | none => .non | some i => .int i, fun x S H v h => by cases x <;> exact h, fun x y h => by cases x <;> cases y <;> simp_all, fun x y => by cases x <;> cases y <;> rfl⟩
instance : Scal (Option Str) (yOpt yStr) := ⟨fun x => match x with | none => .non | some i => .str i, fun x S H v h => by cases x <;> exact h, fun x y h => by cases x <;> cases y <;> simp_all, fun x y => by cases x <;> cases y <;> rfl⟩
end
end Mi
namespace Mi
open PySem PySem.Spec PyProof.Rows L2
open Sl (slt Asc)
/-! ### what a plain function returns -/
def Ret {α : Type} (m : Res α) (P : α → Prop) : Prop := ∃ x, m = .ok x ∧ P x
section
variable {α β σ ρ τ : Type} {m : Res α} {P : α → Prop} {Q : β → Prop} {k : α → Res β}
theorem ret_ok {x : α} (h : P x) : Ret (.ok x) P := ⟨x, rfl, h⟩
theorem ret_bind (h : Ret m P) (h2 : ∀ x, P x → Ret (k x) Q) : Ret (m.bind k) Q := by
  obtain ⟨x, rfl, hx⟩ := h
  exact h2 x hx
theorem ret_eq {x : α} (h : m = .ok x) (h2 : Ret (k x) Q) : Ret (m.bind k) Q := by subst h; exact h2
theorem ret_noerr (h : Ret m P) : Ret m.noerr P := by
  obtain ⟨x, rfl, hx⟩ := h
  exact ⟨x, rfl, hx⟩
theorem ret_lt {x : α} {k : α → Res β} (h : Ret (k x) Q) : Ret (lt x k) Q := h
theorem ret_ltE {x : α} {k : α → Res β} (h : ∀ v, v = x → Ret (k v) Q) : Ret (lt x k) Q := h x rfl
theorem ret_mono {P' : α → Prop} (h : Ret m P) (h2 : ∀ x, P x → P' x) : Ret m P' := by
  obtain ⟨x, e, hx⟩ := h
  exact ⟨x, e, h2 x hx⟩
theorem ret_if {c : Prop} [Decidable c] {a b : Res α} (h1 : c → Ret a P) (h2 : ¬ c → Ret b P) : Ret (if c then a else b) P := by
  by_cases h : c
  · rw [if_pos h]; exact h1 h
  · rw [if_neg h]; exact h2 h
theorem ret_to {x : α} (h : Ret m (· = x)) : m = .ok x := by
  obtain ⟨y, e, rfl⟩ := h
  exact e
theorem ret_fold {f : σ → β → Res σ} (I : List β → σ → Prop) {xs : List β} {s : σ} (h0 : I [] s) (hs : ∀ pre x post s, xs = pre ++ x :: post → I pre s → Ret (f s x) (I (pre ++ [x]))) : Ret (pfold f s xs) (I xs) := by
  suffices ∀ pre post s, xs = pre ++ post → I pre s → Ret (pfold f s post) (I xs) from this [] xs s rfl h0
  intro pre post
  induction post generalizing pre with
  | nil => intro s e hi; rw [e, List.append_nil]; exact ⟨s, rfl, hi⟩
  | cons x post ih =>
    intro s e hi
    refine ret_bind (hs pre x post s e hi) fun s' hi' => ?_
    exact ih (pre ++ [x]) s' (by rw [e]; simp) hi'
def ForR (I : σ → Prop) (R : τ → Prop) : Fl σ τ → Prop
  | .nx s => I s
  | .br s => I s
  | .rt r => R r
theorem ret_for {f : σ → β → Res (Fl σ τ)} (I : List β → σ → Prop) (J : σ → Prop) (R : τ → Prop) {xs : List β} {s : σ} (h0 : I [] s) (hJ : ∀ s, I xs s → J s)
    (hs : ∀ pre x post s, xs = pre ++ x :: post → I pre s → Ret (f s x) fun r => match r with | .nx s' => I (pre ++ [x]) s' | .br s' => J s' | .rt r => R r) : Ret (pfor f s xs) (ForR J R) := by
  suffices ∀ pre post s, xs = pre ++ post → I pre s → Ret (pfor f s post) (ForR J R) from this [] xs s rfl h0
  intro pre post
  induction post generalizing pre with
  | nil => intro s e hi; exact ⟨.nx s, rfl, hJ s (by rw [e, List.append_nil]; exact hi)⟩
  | cons x post ih =>
    intro s e hi
    refine ret_bind (hs pre x post s e hi) fun r hr => ?_
    cases r with
    | nx s' => exact ih (pre ++ [x]) s' (by rw [e]; simp) hr
    | br s' => exact ⟨.nx s', rfl, hr⟩
    | rt r => exact ⟨.rt r, rfl, hr⟩
theorem ret_thn {m : Res (Fl σ τ)} {k : σ → Res ρ} {j : τ → Res ρ} {I : σ → Prop} {R : τ → Prop} {Q : ρ → Prop} (h : Ret m (ForR I R)) (h1 : ∀ s, I s → Ret (k s) Q) (h2 : ∀ r, R r → Ret (j r) Q) : Ret (m.thn k j) Q := by
  obtain ⟨x, rfl, hx⟩ := h
  cases x with
  | nx s => exact h1 s hx
  | br s => exact h1 s hx
  | rt r => exact h2 r hx
theorem pml_ok {f : α → Res (Option β)} {g : α → Option β} : ∀ {xs : List α}, (∀ x ∈ xs, f x = .ok (g x)) → pml f xs = .ok (xs.filterMap g)
  | [], _ => rfl
  | x :: xs, h => by
    rw [pml, h x (List.mem_cons_self ..), bind_ok, pml_ok fun y hy => h y (List.mem_cons_of_mem _ hy), bind_ok, List.filterMap_cons]
    cases g x <;> rfl
theorem pml_map {f : α → Res (Option β)} {g : α → β} {xs : List α} (h : ∀ x ∈ xs, f x = .ok (some (g x))) : pml f xs = .ok (xs.map g) := by
  rw [pml_ok (g := fun x => some (g x)) h]
  exact congrArg Res.ok (List.filterMap_eq_map (f := g) ▸ rfl)
theorem pml_filter {f : α → Res (Option α)} {p : α → Bool} {xs : List α} (h : ∀ x ∈ xs, f x = .ok (if p x then some x else none)) : pml f xs = .ok (xs.filter p) := by
  rw [pml_ok (g := fun x => if p x then some x else none) h]
  congr 1
  induction xs with
  | nil => rfl
  | cons x xs ih =>
    rw [List.filterMap_cons, List.filter_cons]
    have := ih fun y hy => h y (List.mem_cons_of_mem _ hy)
    cases e : p x <;> simp [this]
theorem ret_plc {f : σ → α → Res (Option β × σ)} (I : σ → Prop) (G : β → Prop) : ∀ {xs : List α} {s : σ}, I s → (∀ s x, I s → Ret (f s x) fun r => I r.2 ∧ ∀ y ∈ r.1, G y) → Ret (plc f s xs) fun r => I r.2 ∧ r.1.length ≤ xs.length ∧ ∀ y ∈ r.1, G y
  | [], s, hi, _ => ⟨([], s), rfl, hi, Nat.le_refl _, by simp⟩
  | x :: xs, s, hi, h => by
    refine ret_bind (h s x hi) fun r hr => ?_
    refine ret_bind (ret_plc I G (xs := xs) hr.1 h) fun q hq => ?_
    refine ret_ok ⟨hq.1, ?_, fun y hy => ?_⟩
    · cases e : r.1 <;> simp [e] <;> omega
    · rcases List.mem_append.mp hy with hy | hy
      · exact hr.2 y (by simpa using hy)
      · exact hq.2.2 y hy
theorem guard_ok {p : Prop} [Decidable p] (h : p) : guard p = .ok () := if_pos h
theorem psnoc_ok {xs : List α} {y : α} (h : xs.length < 100000) : psnoc xs y = .ok (xs ++ [y]) := if_pos h
theorem pcat_ok {xs ys : List α} (h : xs.length + ys.length ≤ 100000) : pcat xs ys = .ok (xs ++ ys) := if_pos h
theorem pmod_ok {x y : Int} (h : 0 < y) : pmod x y = .ok (x % y) := if_pos h
theorem pdiv_ok {x y : Int} (h : 0 < y) (h2 : y < 1073741824) : pdiv x y = .ok (x / y) := if_pos ⟨h, h2⟩
theorem pmul_l {x y : Int} (h : -(2 ^ 64) < x) (h2 : x < 2 ^ 64) : pmul x y = .ok (x * y) := if_pos (.inl ⟨h, h2⟩)
theorem psortS_ok {xs : List Str} (h : xs.length < 64) : psortS xs = .ok (sortS xs) := if_pos h
theorem pidx_nat {xs : List α} {n : Nat} {x : α} (h : xs[n]? = some x) : pidx xs (n : Int) = .ok x := by
  unfold pidx; rw [atI_nat h]
theorem pidx_get {xs : List α} {i : Int} (h0 : 0 ≤ i) (h1 : i < xs.length) : Ret (pidx xs i) fun x => x ∈ xs ∧ xs[i.toNat]? = some x := by
  obtain ⟨n, rfl⟩ := Int.eq_ofNat_of_zero_le h0
  have h : n < xs.length := by omega
  exact ⟨xs[n], pidx_nat (by simp [h]), List.getElem_mem h, by simp [h]⟩
theorem pset_nat {xs : List α} {n : Nat} {y : α} (h : n < xs.length) : pset xs (n : Int) y = .ok (xs.set n y) := by
  unfold pset ixN
  rw [if_pos (by omega), if_pos (by omega)]
  rfl
end
/-! dicts -/
section
variable {κ α : Type} [DecidableEq κ] {d : List (κ × α)} {k k' : κ} {x y : α}
theorem dlook_nil : dlook ([] : List (κ × α)) k = none := rfl
theorem dlook_cons {p : κ × α} : dlook (p :: d) k = if p.1 = k then some p.2 else dlook d k := by
  unfold dlook
  rw [List.find?_cons]
  by_cases h : p.1 = k <;> simp [h]
theorem dlook_put : dlook (dput d k x) k' = if k' = k then some x else dlook d k' := by
  unfold dput
  by_cases h : (d.any fun kv => decide (kv.1 = k)) = true
  · rw [if_pos h]
    induction d with
    | nil => simp at h
    | cons p d ih =>
      rw [List.map_cons, dlook_cons, dlook_cons]
      by_cases e : p.1 = k
      · simp only [e, if_true]
        by_cases e2 : k' = k
        · subst e2; simp
        · rw [if_neg (fun z => e2 z.symm), if_neg e2, if_neg (fun z => e2 z.symm)]
          by_cases h2 : (d.any fun kv => decide (kv.1 = k)) = true
          · rw [ih h2, if_neg e2]
          · have : (d.map fun kv => if kv.1 = k then (kv.1, x) else kv) = d := by
              clear ih h
              induction d with
              | nil => rfl
              | cons q d ih2 =>
                have e3 : q.1 ≠ k := fun z => h2 (by rw [List.any_cons, decide_eq_true z, Bool.true_or])
                rw [List.map_cons, if_neg e3, ih2 fun z => h2 (by rw [List.any_cons, z, Bool.or_true])]
            rw [this]
      · simp only [if_neg e]
        have h2 : (d.any fun kv => decide (kv.1 = k)) = true := by simpa [List.any_cons, e] using h
        rw [ih h2]
        by_cases e2 : p.1 = k'
        · have : k' ≠ k := fun z => e (e2.trans z)
          simp [e2, this]
        · simp [e2]
  · rw [if_neg h]
    induction d with
    | nil =>
      rw [List.nil_append, dlook_cons, dlook_nil]
      by_cases e : k' = k
      · rw [if_pos e.symm, if_pos e]
      · rw [if_neg (fun z => e z.symm), if_neg e]
    | cons p d ih =>
      have h2 : ¬ (d.any fun kv => decide (kv.1 = k)) = true := fun z => h (by rw [List.any_cons, z, Bool.or_true])
      have e : p.1 ≠ k := fun z => h (by rw [List.any_cons, decide_eq_true z, Bool.true_or])
      rw [List.cons_append, dlook_cons, dlook_cons, ih h2]
      by_cases e2 : p.1 = k'
      · have : k' ≠ k := fun z => e (e2.trans z)
        simp [e2, this]
      · simp [e2]
theorem pdget_ok (h : dlook d k = some x) : pdget d k = .ok x := by unfold pdget; rw [h]
theorem pdput_ok (h : d.length < 100000) : pdput d k x = .ok (dput d k x) := if_pos h
theorem dput_len : (dput d k x).length ≤ d.length + 1 := by
  unfold dput
  split
  · rw [List.length_map]; omega
  · rw [List.length_append]; simp
theorem mem_dkeys_put : k' ∈ dkeys (dput d k x) ↔ k' = k ∨ k' ∈ dkeys d := by
  unfold dput dkeys
  split
  · next h =>
    have : (d.map fun kv => if kv.1 = k then (kv.1, x) else kv).map (·.1) = d.map (·.1) := by
      rw [List.map_map]
      refine List.map_congr_left fun kv _ => ?_
      show (if kv.1 = k then (kv.1, x) else kv).1 = kv.1
      split <;> rfl
    rw [this]
    obtain ⟨kv, h1, h2⟩ := List.any_eq_true.mp h
    refine ⟨.inr, fun z => z.elim (fun z => ?_) id⟩
    subst z
    exact List.mem_map.mpr ⟨kv, h1, of_decide_eq_true h2⟩
  · rw [List.map_append, List.mem_append]
    simp [or_comm]
theorem dkeys_put_nodup (h : (dkeys d).Nodup) : (dkeys (dput d k x)).Nodup := by
  unfold dput
  split
  · have : dkeys (d.map fun kv => if kv.1 = k then (kv.1, x) else kv) = dkeys d := by
      unfold dkeys
      rw [List.map_map]
      refine List.map_congr_left fun kv _ => ?_
      show (if kv.1 = k then (kv.1, x) else kv).1 = kv.1
      split <;> rfl
    rw [this]; exact h
  · next hn =>
    unfold dkeys
    rw [List.map_append]
    refine List.nodup_append.mpr ⟨h, by simp, fun a ha b hb e => ?_⟩
    have hb : b = k := by simpa using hb
    rw [e, hb] at ha
    obtain ⟨kv, h1, h2⟩ := List.mem_map.mp ha
    exact hn (List.any_eq_true.mpr ⟨kv, h1, decide_eq_true h2⟩)
theorem dlook_mem (h : k ∈ dkeys d) : ∃ x, dlook d k = some x := by
  induction d with
  | nil => simp [dkeys] at h
  | cons p d ih =>
    rw [dlook_cons]
    by_cases e : p.1 = k
    · exact ⟨p.2, if_pos e⟩
    · rw [if_neg e]
      refine ih ?_
      simp only [dkeys, List.map_cons, List.mem_cons] at h
      exact h.resolve_left fun z => e z.symm
end
/-! sorted texts -/
theorem mem_sortS {xs : List Str} {x : Str} : x ∈ sortS xs ↔ x ∈ xs := (sortS_perm xs).mem_iff
theorem asc_sortS {xs : List Str} (h : xs.Nodup) : Asc (sortS xs) := by
  have nd := (sortS_perm xs).nodup_iff.mpr h
  refine List.Pairwise.imp₂ (fun a b h1 h2 => ?_) (sortS_pw xs) nd
  rcases Sl.slt_tri a b with q | q | q
  · exact q
  · exact absurd q h2
  · exact absurd q h1
end Mi
namespace Mi
open PySem PySem.Spec PyProof.Rows L2
open Sl (isTup sz szl slt)
/-! ### texts -/
def pfit {α : Type} (xs : List α) : Res (List α) := if xs.length ≤ 100000 then .ok xs else .bad
section
variable {ρ : Type} {A : Nat → Addr} {E : L2.St → XK} {K : PySem.W.Frag} {Γ : Ctx} {c : Res ρ} {κ : Ctx → Vo → Res ρ → Prop} {κa : Ctx → List Ag → Res ρ → Prop} {P P' : Pv} {ps qs : List Pv} {α β : Type} {t : α → Pv} {te tx ty td : TE} {tr : TA} {i : Nat}
/-! ### starred parts of a display -/
theorem ags_app {σ : L2.St} {S : Fz} {H : Hp} : ∀ {vs ws : List V} {ps : List Pv} {gs : List Ag}, PsOk S H vs ps → AgsOk σ S H ws gs → AgsOk σ S H (vs ++ ws) (vals ps ++ gs)
  | [], _, [], _, _, k => k
  | [], _, _ :: _, _, h, _ => False.elim h
  | _ :: _, _, [], _, h, _ => False.elim h
  | _ :: _, _, _ :: _, _, h, k => ⟨h.1, ags_app h.2 k⟩
theorem wa_star (p : List Pv → Pv) [Q : SeqK K p] (h : WX A E Γ te c fun Γ1 V c1 => ∃ ps, V = .val (p ps) ∧ WA A E Γ1 tr c1 fun Γ2 gs c2 => κa Γ2 (vals ps ++ gs) c2) : WA A E Γ (StX.tStar K te tr) c κa := fun F T S σ H Q' O R hc k => by
  refine h F T S σ H _ O R hc fun Γ1 V c1 h1 S1 H1 x R1 l1 p1 hc1 => ?_
  obtain ⟨ps, rfl, h1⟩ := h1
  obtain ⟨a, vs, rfl, hs, hv, _⟩ := Q.sq _ _ _ _ p1
  refine ⟨a, vs, rfl, hs.symm, h1 F T S1 σ H1 _ O R1 hc1 fun Γ2 gs c2 h2 S2 H2 ys R2 l2 p2 hc2 => k _ _ _ h2 S2 H2 _ R2 (l1.trans l2) ?_ hc2⟩
  exact ags_app (hv.up l2) p2
/-- a list display whose parts are of one kind, however many -/
theorem wx_lstG (t : α → Pv) (h : WA A E Γ tr c fun Γ1 gs c1 => ∃ xs k, gs = vals (xs.map t) ∧ c1 = (pfit xs).bind k ∧ ∀ ys, κ Γ1 (.own (wLst K t ys)) (k ys)) : WX A E Γ (tLst tr) c κ := fun F T S σ H Q O R hc kk => by
  refine h F T S σ H _ O R hc fun Γ1 gs c1 h1 S1 H1 xs R1 l1 p1 hc1 => ?_
  obtain ⟨ys, k, rfl, rfl, h1⟩ := h1
  unfold pfit at hc1
  by_cases z : ys.length ≤ 100000
  · rw [if_pos z] at hc1
    have p1 := p1.pvs
    have hz : xs.length ≤ sizeLine := sz (by rw [p1.length, List.length_map]; exact z)
    exact ⟨hz, fun p hp => kk _ _ _ (h1 _) S1 _ _ (R1.new hp) (l1.trans (le_new hp)) (isOwn R1 hp ⟨xs, rfl, p1.up (le_new hp), hz⟩) hc1⟩
  · rw [if_neg z] at hc1; exact absurd hc1 O.nb
/-! ### len of a tuple whose size the kind tells: by rc_lenSq -/
/-! ### setdefault -/
section
variable {κ' : Type} [DecidableEq κ'] {tk : κ' → Pv} [KV : KeyV κ' tk]
def pdsetd {κ α : Type} [DecidableEq κ] (d : List (κ × α)) (k : κ) (x : α) : Res (List (κ × α)) := if d.length < 100000 then .ok (match dlook d k with
  | some _ => d
  | none => dput d k x) else .bad
theorem wx_dsetd (t : α → Pv) (h : WX A E Γ ty c fun Γ1 V1 c1 => ∃ x, V1 = .val (tk x) ∧ WX A E Γ1 tx c1 fun Γ2 V2 c2 => ∃ b y k, ∃ d : List (κ' × α), V2 = .val (t y) ∧ Γ2[i]? = some (.own b (wDct t d)) ∧ c2 = (pdsetd d x y).bind k ∧ ∀ d', κ (Γ2.set i (.own b (wDct t d'))) (.val (t (dgetD d x y))) (k d'))
    {b0 : Bool} {d0 : List (κ' × α)} (hg : Γ[i]? = some (.own b0 (wDct t d0))) : WX A E Γ (tDSetd (tVar i) ty tx) c κ := fun F T S σ H Q O R hc kk => by
  obtain ⟨a0, o0, e0, w0, ⟨kvs0, rfl, _⟩, _⟩ := R.own i b0 _ hg
  refine ⟨_, e0, a0, rfl, .inl ⟨kvs0, .inl w0⟩, ?_⟩
  refine h F T S σ H _ O R hc fun Γ1 V c1 h1 S1 H1 v R1 l1 p1 hc1 => ?_
  obtain ⟨x, rfl, h1⟩ := h1
  refine h1 F T S1 σ H1 _ O R1 hc1 fun Γ2 V c2 h2 S2 H2 w R2 l2 p2 hc2 => ?_
  obtain ⟨b, y, k, d, rfl, hg2, rfl, h2⟩ := h2
  obtain ⟨a, o, w1, w2, ⟨kvs, rfl, w3, w4⟩, w5, w6, _⟩ := R2.own i b _ hg2
  rw [e0] at w1; cases w1
  have ew := KV.is _ _ _ _ ((tk x).up l2 p1)
  subst ew
  obtain ⟨q1, q2⟩ := w3.look (k := x)
  have lk : kvs.length = d.length := by rw [w3.len]; exact kpl_len
  unfold pdsetd at hc2
  by_cases hl : d.length < 100000
  · rw [if_pos hl] at hc2
    cases e : dlook d x with
    | some u =>
      rw [e] at hc2
      obtain ⟨v, ev, hv⟩ := q1 u e
      have hset : Γ2.set i (.own b (wDct t d)) = Γ2 := by
        apply List.ext_getElem?
        intro j
        by_cases z : i = j
        · subst z
          rw [hg2]; exact set_eq (List.getElem?_eq_some_iff.mp hg2).1
        · rw [List.getElem?_set_ne z]
      refine ⟨kvs, KV.ky x, w2, rfl, szl (by omega), fun v' hv' => ?_, fun z => by rw [ev] at z; cases z⟩
      rw [ev] at hv'; cases hv'
      exact kk _ _ _ (h2 d) S2 H2 _ (by rw [hset]; exact R2) (l1.trans l2) (by show (t _).p _ _ _; unfold dgetD; rw [e]; exact hv) hc2
    | none =>
      rw [e] at hc2
      refine ⟨kvs, KV.ky x, w2, rfl, szl (by omega), fun v' hv' => absurd hv' (by rw [q2 e]; exact fun z => nomatch z), fun _ => ?_⟩
      have lm := le_mut (o' := .dK (putK kvs (KV.ky x) w)) w2 w5 rfl
      have hw : (wDct t (dput d x y)).w S2 (upd H2 a0 (.dK (putK kvs (KV.ky x) w))) (.dK (putK kvs (KV.ky x) w)) := ⟨_, rfl, (w3.put p2).up lm, sz (by have := putK_len (kvs := kvs) (k := KV.ky x) (v := w); omega)⟩
      obtain ⟨l3, R3⟩ := R2.mut (O' := wDct t (dput d x y)) (o' := .dK (putK kvs (KV.ky x) w)) hg2 e0 fun _ _ _ => hw
      exact kk _ _ _ (h2 _) S2 _ _ R3 ((l1.trans l2).trans l3) ((t _).up l3 (by show (t _).p _ _ _; unfold dgetD; rw [e]; exact p2)) hc2
  · rw [if_neg hl] at hc2; exact absurd hc2 O.nb
end
end
end Mi
namespace Sl
open PySem PySem.Spec PyProof.Rows L2
/-! ### sorted(xs, key=len) of a list of tuples -/
/-- tuples and their lengths -/
inductive TLn (K : PySem.W.Frag) (H : Hp) : List V → List Nat → Prop
  | nil : TLn K H [] []
  | cons {a : Addr} {ys vs : List V} {ns : List Nat} : SqT K H a ys → TLn K H vs ns → TLn K H (.ref a :: vs) (ys.length :: ns)
theorem TLn.len {K : PySem.W.Frag} {H : Hp} : ∀ {vs : List V} {ns : List Nat}, TLn K H vs ns → vs.length = ns.length
  | _, _, .nil => rfl
  | _, _, .cons _ h => congrArg Nat.succ h.len
def sortLn (vs : List V) (ns : List Nat) : List (V × Nat) := (vs.zip ns).mergeSort fun a b => decide (a.2 ≤ b.2)
def tSortLen (K : PySem.W.Frag) (t : TA) : TE := fun σ H Q => t σ H fun vs H1 => ∃ (a : Addr) (xs : List V) (ns : List Nat), vs = [.ref a] ∧ SqL K H1 a xs ∧ TLn K H1 xs ns ∧
  ∀ p, H1 p = none → Q (.ref p) (upd H1 p (.lst ((sortLn xs ns).map (·.1))))
section
variable {X : Cx} {K : PySem.W.Frag}
theorem each_tln {pins : List (Addr × Obj)} {σ : L2.St} {H : Hp} {s : Shared} (I : Inv X pins σ H s) : ∀ {vs : List V} {ns : List Nat} {us : List Value}, TLn X.K H vs ns → Vals vs us →
    PySem.W.EachIs (fun (u : Value) (p : V × Nat) => RelV p.1 u ∧ ∃ (a : Addr) (its : List Value), u = .ref a ∧ IsTup s.heap a its.toArray ∧ its.length = p.2 ∧ its.length ≤ sizeLine) us (vs.zip ns)
  | _, _, _, .nil, .nil => .nil
  | _, _, _, .cons (a := a) h t, .cons r rs => by
    obtain ⟨its, rv, it, hz⟩ := I.tuple h
    refine .cons ⟨r, a, its, r, it, rv.length.symm, by rw [← rv.length]; exact hz⟩ (each_tln I t rs)
theorem of_eachS : ∀ {us : List Value} {ps : List (V × Nat)} {R : Value → V × Nat → Prop}, (∀ u p, R u p → RelV p.1 u) → PySem.W.EachIs R us ps → Vals (ps.map (·.1)) us
  | _, _, _, _, .nil => .nil
  | _, _, _, k, .cons h t => .cons (k _ _ h) (of_eachS k t)
theorem pe_sortedLen {e : Expr} {t : TA} {p p2 pos kp : Pos} (hK : X.K = K) (hu : X.A.units + 64 < cLine) (hg : Gl X "sorted") (hm : X.mg "sorted" = none) (hg2 : Gl X "len") (hm2 : X.mg "len" = none) (ha : PA X [e] t)
    (he : backTo pos (starEach [e] X.env) = (false, eval e X.env) :: backTo pos (starEach [] X.env) := by rfl) (hpl : (backTo pos (starEach [e] X.env)).any (·.1) = false := by rfl) :
    PE X (.Call (.Name "sorted" p) [e] [⟨some "key", .Name "len" p2, kp⟩] pos) (tSortLen K t) := by
  subst hK
  refine ⟨fun pins s σ H Q I h => ?_⟩
  refine wpAny_Call_Name_kw (ld_blt (u := .builtin "sorted") I hg hm (by decide +kernel) ?_)
  refine PyProof.Rows.callWith_kw (thn (ha.run pos pins s σ H _ I h) fun us s1 ⟨vs, H1, I1, r1, a, xs, ns, ev, hs, hn, q⟩ => ?_) he hpl rfl rfl
  subst ev
  obtain rfl := Vals.ref1 r1
  show wpAny _ _ (evalAll ((do let v ← eval (.Name "len" p2) X.env; standAt pos; pure v) :: [])) _ _ s1
  refine wpAny_evalAll_cons (wpAny_bind (ld_blt (u := .builtin "len") I1 hg2 hm2 (by decide +kernel) (wpAny_bind (wpAny_standAt (wpAny_pure (wpAny_evalAll_nil ?_))))))
  show wpAny _ _ (call (.builtin "sorted") [.ref a] [(Str.ofString "key", .builtin "len")]) _ _ s1
  obtain ⟨its, rv, hl, hz⟩ := I1.list hs
  have E1 := each_tln I1 hn rv
  have hlen : (xs.zip ns).length = its.length := by rw [List.length_zip, ← hn.len, Nat.min_self, rv.length]
  have hle : PySem.W.dataLe false (fun p : V × Nat => PyData.int ((p.2 : Nat) : Int)) = fun a b => decide (a.2 ≤ b.2) := by
    rw [PySem.W.dataLe_int (fun p : V × Nat => ((p.2 : Nat) : Int))]
    funext a b
    exact decide_eq_decide.mpr (by omega)
  have hn63 := line63
  refine PySem.W.sorted_key_data (b := false) (fun p : V × Nat => PyData.int ((p.2 : Nat) : Int)) hl.isList E1 ?_ ?_ (by rw [hlen, ← rv.length]; exact hz) (fun x _ => by show _ + 2 + _ < _; simp only [PyData.depth]; omega) (PyProof.Rows.ksk_s1 _ _) (fun _ => PyProof.Rows.ksk_l1 _ _) (fun x => PyProof.Rows.ksk_t4 "len" x) ?_ ?_
  · intro d hd d' hd'
    obtain ⟨p, _, rfl⟩ := List.mem_map.mp hd
    obtain ⟨p', _, rfl⟩ := List.mem_map.mp hd'
    rfl
  · refine .inr fun d hd => ?_
    obtain ⟨p, _, rfl⟩ := List.mem_map.mp hd
    exact ⟨fun z => (nomatch z), fun _ z => nomatch z⟩
  · rintro u p ⟨_, b, ts, rfl, it, hb, hbz⟩ _ h' tk kp
    have it' : IsTup h' b ts.toArray := by
      obtain ⟨o, e, r⟩ := it
      exact ⟨o, kp _ _ e, r⟩
    have hc : (ts.toArray.size : Int) < 2 ^ 63 := by simp only [List.size_toArray]; omega
    refine len_tuple it' hc ⟨h', tk + 1 + 1, rfl, fun _ _ e => e, ?_⟩
    rw [List.size_toArray, hb]
    exact .int _ _
  · intro out c h' tk kp fr he' ho hE
    rw [hle] at hE
    have rv2 := of_eachS (fun _ _ h => h.1) hE
    refine ⟨.ref _, upd H1 (s1.heap.objs.size + 1) (.lst ((sortLn xs ns).map (·.1))), I1.laid (t' := tk) kp (Nat.le_succ _) ⟨?_, out, c, rv2, he'⟩, rfl, q _ (I1.hok.fresh (Nat.le_succ _))⟩
    rw [show (List.map (fun x => x.fst) (sortLn xs ns)).length = out.length from rv2.length, ho, hlen, ← rv.length]; exact hz
end
end Sl
namespace Sl
open PySem PySem.Spec PyProof.Rows L2
/-! ### sorted(d.items()), the keys texts, the values ints -/
def leSI (a b : Str × Int) : Bool := if b.1 = a.1 then !decide (b.2 < a.2) else !decide (slt b.1 a.1)
def encSI (q : Str × Int) : PyData := .tuple [.str q.1, .int q.2]
theorem leSI_eq (a b : Str × Int) : (!PySem.W.dataLt (encSI b) (encSI a)) = leSI a b := by
  unfold encSI leSI
  rw [PySem.W.dataLt_pair rfl rfl]
  have e1 : PyData.eqv (.str b.1) (.str a.1) = decide (b.1 = a.1) := by rw [Bool.eq_iff_iff]; simp [PyData.eqv]
  have e2 : PyData.eqv (.int b.2) (.int a.2) = decide (b.2 = a.2) := by rw [Bool.eq_iff_iff]; simp [PyData.eqv]
  rw [e1, e2, PySem.W.dataLt_str, PySem.W.dataLt_int]
  by_cases h : b.1 = a.1
  · simp only [h, decide_true, if_true]
    by_cases h2 : b.2 = a.2
    · simp [h2]
    · simp [h2]
  · simp only [h, decide_false, if_false]
    rfl
theorem leSI_le : PySem.W.dataLe false encSI = leSI := by
  rw [PySem.W.dataLe_eq]
  funext a b
  exact leSI_eq a b
def rItemsK : V → List V → Hp → VK → Prop := fun x xs H Q => ∃ (a : Addr) (kvs : List (Key × V)), x = .ref a ∧ xs = [] ∧ Rd H a (.dK kvs) ∧ ∀ p, H p = none → Q (.ref p) (upd H p (L2.DX.itemsO p a))
section
variable {X : Cx}
theorem mt_itemsK : MtR X "dict.items" rItemsK := by
  rintro pins _ σ H _ _ _ _ Q I rx rxs ⟨a, kvs, rfl, rfl, ha, q⟩
  cases rxs
  cases rx
  obtain ⟨_, hd, _, _, o, es, ep, ho, hx, hdat, _⟩ := dk_rd I.hok ha
  refine DT.callItems hd ⟨o, ho, hx, hdat⟩ ⟨.ref _, _, I.laid (fun b u e => Heap.get?_push_of_some _ e) (Nat.le_refl _) (L2.DX.itemsO_ok (Heap.get?_push_size _ rfl)), rfl, q _ (I.hok.fresh (Nat.le_refl _))⟩
def aDict : V → Hp → Prop := fun x H => ∃ a, x = .ref a ∧ IsD H a
theorem aDict_ok : TyOk X "dict" aDict := fun _ _ _ _ _ _ I r h => by
  obtain ⟨a, rfl, hd⟩ := h
  cases r
  exact ⟨(isD_at I hd).1, (isD_at I hd).2.1⟩
/-- e.items() -/
abbrev tItemsK (td : TE) : TE := tMG0 aDict rItemsK td
theorem pe_itemsK {o : Expr} {td : TE} {apos cpos : Pos} (ho : PE X o td) (hbase : attributeBase o "items" X.env (eval o X.env) = eval o X.env := by rfl) (hline : (apos.endLine == cpos.line) = true := by rfl) :
    PE X (.Call (.Attribute o "items" apos) [] [] cpos) (tItemsK td) :=
  pe_mG0 aDict_ok F.plainAttrs_dict F.slot_dict_items F.type_dict_items mt_itemsK ho hbase hline
def rSortSI : List V → Hp → VK → Prop := fun vs H Q => ∃ (p a : Addr) (xs : List (Str × Int)), vs = [.ref p] ∧ H p = some (L2.DX.itemsO p a) ∧ Rd H a (.dK (xs.map fun q => (.inr q.1, .int q.2))) ∧
  ∀ (H' : Hp) (l : Addr) (zs : List (Addr × Str × Int)), zs.map (·.2) = xs.mergeSort leSI → (∀ b o, H b = some o → H' b = some o) → H l = none → H' l = some (.lst (zs.map fun z => V.ref z.1)) → (∀ z ∈ zs, H' z.1 = some (.tup [.str z.2.1, .int z.2.2])) → Q (.ref l) H'
/-- u is a tuple (text, int) made at n or later -/
def PairFrom (h : Heap) (n : Nat) (u : Value) (q : Str × Int) : Prop :=
  ∃ b t t', u = .ref b ∧ n ≤ b ∧ h.get? b = some { cls := .type "tuple", data := .seq #[Value.str q.1 t, Value.int q.2 t'] }
theorem PairFrom.one {h : Heap} {n : Nat} {u : Value} {q q' : Str × Int} (x : PairFrom h n u q) (y : PairFrom h n u q') : q = q' := by
  obtain ⟨b, t, t', rfl, -, e⟩ := x
  obtain ⟨b', _, _, e', -, e2⟩ := y
  cases e'
  rw [e] at e2
  injection e2 with e2
  injection e2 with _ _ e2
  injection e2 with e2
  simp only [Array.mk.injEq, List.cons.injEq, Value.str.injEq, Value.int.injEq] at e2
  exact Prod.ext e2.1.1 e2.2.1.1
/-- at an address from n on nothing is known yet, or the pair that stands there -/
def OnlyPairs (h : Heap) (n : Nat) (H : Hp) : Prop := ∀ b, n ≤ b → H b = none ∨ ∃ q, PairFrom h n (.ref b) q ∧ H b = some (.tup [.str q.1, .int q.2])
theorem know_pairs {pins : List (Addr × Obj)} {σ : L2.St} {H : Hp} {s : Shared} {h : Heap} {tk : Nat} (I : L2.Inv X pins σ H s) :
    ∀ {us : List Value} {qs : List (Str × Int)}, PySem.W.EachIs (PairFrom h s.heap.objs.size) us qs → ∀ H1, L2.Inv X pins σ H1 { s with heap := h, toks := tk } → OnlyPairs h s.heap.objs.size H1 →
    ∃ (H2 : Hp) (zs : List (Addr × Str × Int)), L2.Inv X pins σ H2 { s with heap := h, toks := tk } ∧ (∀ b o, H1 b = some o → H2 b = some o) ∧ OnlyPairs h s.heap.objs.size H2 ∧
      zs.map (·.2) = qs ∧ us = zs.map (fun z => Value.ref z.1) ∧ ∀ z ∈ zs, H2 z.1 = some (.tup [.str z.2.1, .int z.2.2]) := by
  intro us qs e
  induction e with
  | nil => exact fun H1 I1 o1 => ⟨H1, [], I1, fun _ _ e => e, o1, rfl, rfl, fun _ h => nomatch h⟩
  | @cons u q us qs hd _ ih =>
    intro H1 I1 o1
    have more : ∃ H1' b, u = Value.ref b ∧ L2.Inv X pins σ H1' { s with heap := h, toks := tk } ∧ (∀ b o, H1 b = some o → H1' b = some o) ∧ OnlyPairs h s.heap.objs.size H1' ∧ H1' b = some (.tup [.str q.1, .int q.2]) := by
      have hd' := hd
      obtain ⟨b, t, t', rfl, hb, hg⟩ := hd
      rcases o1 b hb with hn | ⟨q', hq', he⟩
      · refine ⟨upd H1 b (.tup [.str q.1, .int q.2]), b, rfl, ?_, fun c o e => by rw [upd_ne (ne_of_none e hn)]; exact e, fun c hc => ?_, upd_same⟩
        · refine I1.take (h' := h) (t' := tk) (fun _ _ _ e => e) (I.fpOk hb hn) ?_
          exact ⟨(by rw [sizeLine_eq]; exact Nat.le_of_ble_eq_true rfl), [_, _], .cons ⟨t, rfl⟩ (.cons ⟨t', rfl⟩ .nil), ⟨_, hg, rfl, 0, rfl⟩⟩
        · by_cases hcb : c = b
          · subst hcb; exact .inr ⟨q, hd', upd_same⟩
          · rw [upd_ne hcb]; exact o1 c hc
      · rw [← hq'.one hd']
        exact ⟨H1, b, rfl, I1, fun _ _ e => e, o1, he⟩
    obtain ⟨H1', b, rfl, I1', g1, o1', hb⟩ := more
    obtain ⟨H2, zs, I2, g2, o2, hz, hu, ha⟩ := ih H1' I1' o1'
    refine ⟨H2, (b, q) :: zs, I2, fun c o e => g2 c o (g1 c o e), o2, by rw [List.map_cons, hz], by rw [List.map_cons, hu], fun z hz => ?_⟩
    rcases List.mem_cons.mp hz with rfl | hz
    · exact g2 _ _ hb
    · exact ha z hz
theorem each_at {R : Value → Str × Int → Prop} : ∀ {us : List Value} {qs : List (Str × Int)}, us.length = qs.length → (∀ (j : Nat) (u : Value) (q : Str × Int), us[j]? = some u → qs[j]? = some q → R u q) → PySem.W.EachIs R us qs
  | [], [], _, _ => .nil
  | u :: us, q :: qs, hl, h => .cons (h 0 u q rfl rfl) (each_at (by simpa using hl) fun j => h (j + 1))
theorem entries_at {P : Program} {w : World} {es : List DictEntry} {vs : List (Key × Value)} {xs : List (Str × Int)} (he : PySem.Pairs (mixKind P w) es vs) (hv : KV (xs.map fun q => ((.inr q.1 : Key), V.int q.2)) vs) :
    es.length = xs.length ∧ ∀ (j : Nat) (e : DictEntry) (q : Str × Int), es[j]? = some e → xs[j]? = some q → ∃ t t', e.key = Value.str q.1 t ∧ e.val = Value.int q.2 t' := by
  induction he generalizing xs with
  | nil =>
    cases xs with
    | nil => exact ⟨rfl, fun j e q h => by simp at h⟩
    | cons x xs => cases hv
  | @cons e kv es vs h1 h2 hs ih =>
    cases xs with
    | nil => cases hv
    | cons x xs =>
      cases hv with
      | cons r rs =>
        obtain ⟨il, ia⟩ := ih rs
        refine ⟨by simp [il], fun j e' q h h' => ?_⟩
        cases j with
        | zero =>
          cases h; cases h'
          obtain ⟨t, ht⟩ := show RelV (kV (.inr x.1)) e.key by
            have := relV_key (show keyIs _ _ = true from h1)
            rwa [← show (.inr x.1 : Key) = _ from r.1] at this
          obtain ⟨t', ht'⟩ := r.2
          exact ⟨t, t', ht, h2.trans ht'⟩
        | succ j => exact ia j e' q h h'
theorem cr_sortedSI (hc : X.calm = true) (hu : X.A.units + 64 < cLine) : CallR X (.builtin "sorted") rSortSI := by
  rintro pins s σ H _ us Q I r ⟨p, a, xs, rfl, hp, ha, q⟩
  obtain rfl := Vals.ref1 r
  obtain ⟨z, _, vs, rel, o, es, ep, ho, hx, hdat, _, his, _⟩ := dk_rd I.hok ha
  obtain ⟨el, ea⟩ := entries_at his rel
  rw [List.length_map] at z
  have view : s.heap.IsItemsView p a := (show ObjOk X.prog X.w H s.heap p (L2.DX.itemsO p a) from I.hok p _ hp).1
  refine DT.sortedI (I.ok.hd hc) view ⟨o, ho, hx, hdat⟩ (by rw [← Array.length_toList, el]; exact z) fun h1 tk as hk hlt hl hG => ?_
  -- the list to be sorted holds pairs
  have pairs1 : PySem.W.EachIs (PairFrom h1 s.heap.objs.size) (as.map Value.ref) xs := by
    refine each_at (by rw [List.length_map, hl, ← Array.length_toList, el]) fun j u q' hj hq => ?_
    rw [List.getElem?_map] at hj
    obtain ⟨b, hb, rfl⟩ := Option.map_eq_some_iff.mp hj
    obtain ⟨e, he, hg⟩ := hG.pairs j b hb
    obtain ⟨t, t', k1, k2⟩ := ea j e q' (by rw [← he]; simp) hq
    exact ⟨b, t, t', rfl, Nat.le_of_lt (hG.above b (List.mem_of_getElem? hb)), by rw [hg, k1, k2]⟩
  have at1 : (h1.push { cls := .type "list", data := .seq (as.map Value.ref).toArray }).get? h1.objs.size = some (seqObj "list" (as.map Value.ref).toArray 0) := Heap.get?_push_size _ rfl
  have k1 : ∀ b o, h1.get? b = some o → (h1.push { cls := .type "list", data := .seq (as.map Value.ref).toArray }).get? b = some o := fun _ _ e => Heap.get?_push_of_some _ e
  generalize h1.push { cls := .type "list", data := .seq (as.map Value.ref).toArray } = h2 at at1 k1 ⊢
  refine PySem.W.list_sort_data (s := { s with heap := h2, toks := tk }) (enc := encSI) at1 pairs1 (pairs1.mono fun u q' x => ?_) (PySem.W.AllAlike.of fun _ _ => rfl) (PySem.W.Sortable.tuples fun _ => ⟨_, _, rfl⟩) z (fun _ _ => by show _ + 1 + 1 + _ < _; simp [encSI, PyData.depth, PyData.depthAll]; omega) fun out _ hE => ?_
  · obtain ⟨b, t, t', rfl, _, hg⟩ := x
    exact ⟨[], .tuple (k1 _ _ hg) rfl rfl (.cons (.str _ _) (.cons (.int _ _) .nil)), by simp⟩
  rw [leSI_le] at hE
  -- what the walk knows of the heap behind the sort
  show EP X pins σ Q (.ref h1.objs.size) { s with heap := sortedHeap h2 h1.objs.size (as.map Value.ref) (List.toArray out), toks := tk }
  have k3 : ∀ b o, b ≠ h1.objs.size → h1.get? b = some o → (sortedHeap h2 h1.objs.size (as.map Value.ref) (List.toArray out)).get? b = some o := fun b o hb e =>
    (PyProof.Rows.sortedHeap_old hb (Heap.lt_size (k1 b o e))).trans (k1 b o e)
  obtain ⟨n3, at3⟩ := PyProof.Rows.sortedHeap_at (vs := as.map Value.ref) (out := List.toArray out) at1
  generalize sortedHeap h2 h1.objs.size (as.map Value.ref) (List.toArray out) = h3 at k3 at3 ⊢
  have old : ∀ b o, h1.get? b = some o → h3.get? b = some o := fun b o e => k3 b o (Nat.ne_of_lt (Heap.lt_size e)) e
  have E3 : PySem.W.EachIs (PairFrom h3 s.heap.objs.size) out (xs.mergeSort leSI) := hE.mono fun _ _ ⟨b, t, t', e1, e2, e3⟩ => ⟨b, t, t', e1, e2, old _ _ e3⟩
  obtain ⟨H2, zs, I2, g, o2, hz, hu2, at2⟩ := know_pairs I E3 H (I.kept (t' := tk) fun b o e => old b o (hk b o e)) fun b hb => .inl (I.hok.fresh hb)
  have free : H2 h1.objs.size = none := by
    rcases o2 _ (Nat.le_of_lt hlt) with e | ⟨q', ⟨b, t, t', e1, _, e3⟩, _⟩
    · exact e
    · cases e1
      rw [at3] at e3
      injection e3 with e3
      injection e3 with e3
      exact absurd e3 (by decide)
  have len : (zs.map fun z => V.ref z.1).length ≤ sizeLine := by
    have := congrArg List.length hz
    rw [List.length_map, List.length_mergeSort] at this
    rw [List.length_map, this]; exact z
  have vals : ∀ ys : List (Addr × Str × Int), Vals (ys.map fun z => V.ref z.1) (ys.map fun z => Value.ref z.1) := fun ys => by
    induction ys with
    | nil => exact .nil
    | cons y ys ih => exact .cons rfl ih
  have I3 : Inv X pins σ (upd H2 h1.objs.size (.lst (zs.map fun z => V.ref z.1))) { s with heap := h3, toks := tk } :=
    I2.take (h' := h3) (t' := tk) (fun _ _ _ e => e) (I.fpOk (Nat.le_of_lt hlt) free) ⟨len, out, n3, hu2 ▸ vals zs, at3⟩
  have grow : ∀ b o, H2 b = some o → upd H2 h1.objs.size (.lst (zs.map fun z => V.ref z.1)) b = some o := fun b o e => by rw [upd_ne (ne_of_none e free)]; exact e
  exact ⟨.ref h1.objs.size, _, I3, rfl, q _ _ zs hz (fun b o e => grow b o (g b o e)) (I.hok.fresh (Nat.le_of_lt hlt)) upd_same fun z' h' => grow _ _ (at2 z' h')⟩
end
end Sl
namespace Sl
open PySem PySem.Spec PyProof.Rows L2
/-! ### sorted of whatever is collected into a list -/
mutual
theorem reads_lt {h : Heap} : ∀ {v : Value} {d : PyData} {as : List Addr}, Reads h v d as → ∀ b ∈ as, b < h.objs.size
  | _, _, _, .none, _, hb => nomatch hb
  | _, _, _, .bool _, _, hb => nomatch hb
  | _, _, _, .int _ _, _, hb => nomatch hb
  | _, _, _, .str _ _, _, hb => nomatch hb
  | _, _, _, .list h1 _ _ h4, b, hb => (List.mem_cons.mp hb).elim (fun e => e ▸ Heap.lt_size h1) fun hb => readsAll_lt h4 b hb
  | _, _, _, .tuple _ _ _ h4, b, hb => readsAll_lt h4 b hb
  | _, _, _, .dict h1 _ _ h4 h5, b, hb => by
    rcases List.mem_append.mp hb with hb | hb
    · exact (List.mem_cons.mp hb).elim (fun e => e ▸ Heap.lt_size h1) fun hb => readsAll_lt h4 b hb
    · exact readsAll_lt h5 b hb
theorem readsAll_lt {h : Heap} : ∀ {vs : List Value} {ds : List PyData} {as : List Addr}, ReadsAll h vs ds as → ∀ b ∈ as, b < h.objs.size
  | _, _, _, .nil, _, hb => nomatch hb
  | _, _, _, .cons h1 h2, b, hb => (List.mem_append.mp hb).elim (reads_lt h1 b) (readsAll_lt h2 b)
end
theorem coll_seq {prog : Program} {w : World} {A : Around} {E : Value → Shared → Prop} {s : Shared} {Q : List Value → Shared → Prop} {r : Addr} {ty : String} {ob : Obj} {its : Array Value} {k : Nat} (hty : ty = "list" ∨ ty = "tuple")
    (e1 : s.heap.get? r = some ob) (e2 : ob.cls = .type ty) (e3 : ob.data = .seq its k) (hz : its.size ≤ sizeLine)
    (q : ∀ h', (∀ b o, s.heap.get? b = some o → h'.get? b = some o) → s.heap.objs.size ≤ h'.objs.size → Q its.toList { s with heap := h' }) : wpAny (model prog w) A (collect (.ref r)) Q E s := by
  let g := (s.heap.push { cls := .type "list", data := .seq ([] : List Value).toArray }).update s.heap.objs.size (Obj.mapSeq (· ++ its))
  have n0 : (s.heap.push { cls := .type "list", data := .seq ([] : List Value).toArray }).get? s.heap.objs.size = some { cls := .type "list", data := .seq #[] 0 } := Heap.get?_push_size _ rfl
  have n1 := Heap.get?_update_self (Obj.mapSeq (· ++ its)) n0 rfl
  have done : wpAny (model prog w) A (match Value.ref s.heap.objs.size with | Value.ref a => (do match (← load a).data with | Data.seq xs _ => pure xs.toList | _ => unsupported "internal:collect") | _ => unsupported "internal:collect") Q E { s with heap := g } := by
    show wpAny _ A (load s.heap.objs.size >>= _) _ _ _
    refine wpAny_bind (wpAny_load n1 (wpAny_pure ?_))
    show Q ((#[] : Array Value) ++ its).toList _
    rw [show ((#[] : Array Value) ++ its).toList = its.toList by simp]
    refine q g (fun b o hb => ?_) ?_
    · show g.get? b = some o
      exact (Heap.get?_update_other _ _ (Nat.ne_of_gt (Heap.lt_size hb))).trans (Heap.get?_push_of_some _ hb)
    · show s.heap.objs.size ≤ ((s.heap.push _).update _ _).objs.size
      rw [Heap.size_update, Heap.size_push]; exact Nat.le_succ _
  unfold collect
  refine wpAny_bind (wpAny_runValue (codeAny_builtin F.entry_proto_collect ?_))
  rw [Around.under_plainId F.plain_proto_collect _]
  show wpAny _ A.in1 (newList [] >>= fun l => again (.builtin "list.__iadd__" ⟨[l, .ref r], []⟩)) _ _ s
  refine wpAny_bind (wpAny_newObj_type (wpAny_pure ⟨plainId_quiet F.plain_list_iadd _, codeAny_builtin F.entry_list_iadd ?_⟩))
  rw [Around.under_plainId F.plain_list_iadd _]
  show wpAny _ A.in1 (Builtin.List.listExtendWith (.ref s.heap.objs.size) (.ref r) (.ref s.heap.objs.size)) _ _ _
  refine wpAny_mono (wpAny_extend_seq (hsz := hz) (A := A) (R := fun z s' => z = .ok (.ret (.ref s.heap.objs.size)) ∧ s' = { s with heap := g }) (s := { s with heap := s.heap.push { cls := .type "list", data := .seq ([] : List Value).toArray } }) _ r _ 0 hty n0 (Heap.get?_push_of_some _ e1) e2 e3 ⟨rfl, rfl⟩) (fun fin s' x => ?_) (fun e s' x => ?_)
  · cases fin with
    | done f => obtain ⟨e, rfl⟩ := x; cases e; exact done
    | again c' => exact ⟨x.1, codeAny_mono x.2 fun z s'' hr => by obtain ⟨rfl, rfl⟩ := hr; exact done⟩
  · exact absurd x.1 (by simp)
theorem sorted_coll {prog : Program} {w : World} {A : Around} {E : Value → Shared → Prop} {s : Shared} {Q : Value → Shared → Prop} {r : Addr} {its : List Value} (hz : its.length ≤ sizeLine)
    (coll : ∀ R : List Value → Shared → Prop, (∀ h' tk, (∀ b o, s.heap.get? b = some o → h'.get? b = some o) → s.heap.objs.size ≤ h'.objs.size → R its { s with heap := h', toks := tk }) → wpAny (model prog w) A.in1 (collect (.ref r)) R E s)
    (h : ∀ (h' : Heap) (tk : Nat), (∀ b o, s.heap.get? b = some o → h'.get? b = some o) → s.heap.objs.size ≤ h'.objs.size →
      wpAny (model prog w) A.in1 (call (.builtin "list.sort") [.ref h'.objs.size]) (fun _ s' => Q (.ref h'.objs.size) s') E { s with heap := h'.push { cls := .type "list", data := .seq its.toArray }, toks := tk }) :
    wpAny (model prog w) A (call (.builtin "sorted") [.ref r]) Q E s := by
  refine PySem.Calls.call_function_entry kind_sorted plain_sorted entry_sorted (args_sorted1 _) ?_
  unfold Builtin.«sorted»
  refine wpAny_bind (m := checkCount "sorted" 1 1 _) (wpAny_pure (wpAny_bind (coll _ fun h' tk hk hl => ?_)))
  refine wpAny_bind (wpAny_newList (wpAny_bind (wpAny_holding (wpAny_mono (h h' tk hk hl) (fun _ s' x => ?_) fun _ _ e => e))) hz)
  exact wpAny_pure ⟨_, rfl, x⟩
theorem oneType_tups {M : Model} {A : Around} {s : Shared} {E : Value → Shared → Prop} {vs : List Value} {ds : List PyData} {Q : Option Value → Shared → Prop} (e : PySem.W.EachIs (fun v d => ∃ as, Reads s.heap v d as) vs ds) (ht : ∀ d ∈ ds, ∃ xs, d = .tuple xs) (h2 : 2 ≤ vs.length)
    (h : Q (some (.type "tuple")) s) : wpAny M A (PyProof.Rows.oneTypeOnly' vs.toArray) Q E s := by
  have tys : ∀ v ∈ vs, PySem.W.Looks M s.heap (typeOf v) (.type "tuple") := fun v hv => by
    obtain ⟨d, hd, as, r⟩ := e.left v hv
    obtain ⟨xs, rfl⟩ := ht d hd
    exact PySem.W.looks_reads r
  rw [PyProof.Rows.oneTypeOnly'_eq, List.mapM_toArray, map_eq_pure_bind]
  refine wpAny_bind (wpAny_bind (PySem.W.kas_mapM (r := .type "tuple") _ (fun v hv Q' hq => (tys v hv).here hq) (wpAny_pure ?_)))
  obtain ⟨v1, rest, rfl⟩ : ∃ v1 rest, vs = v1 :: rest := by
    match vs, h2 with
    | [], h2 => simp at h2
    | v :: r, _ => exact ⟨v, r, rfl⟩
  have e0 : (((v1 :: rest).map fun _ => Value.type "tuple").toArray)[0]? = some (.type "tuple") := rfl
  rw [e0]
  have e1 : ((((v1 :: rest).map fun _ => Value.type "tuple").toArray).all (· == Value.type "tuple")) = true := by simp
  show wpAny M A (pure (if _ = true then _ else _)) Q E s
  rw [if_pos e1]
  exact wpAny_pure h
/-- tuples can be sorted, the empty one among them too -/
theorem one_tup {prog : Program} {w : World} {A : Around} {s : Shared} {E : Value → Shared → Prop} {Q : Bool → Shared → Prop} {xs ys : List PyData} {a b : Value} {as bs : List Addr} (ra : Reads s.heap a (.tuple xs) as) (rb : Reads s.heap b (.tuple ys) bs) (h : PySem.W.alike (.tuple xs) (.tuple ys) = true)
    (hu : A.units + min (PyData.tuple xs).depth (PyData.tuple ys).depth < cLine) (hq : Q (PySem.W.dataLt (.tuple xs) (.tuple ys)) s) : wpAny (model prog w) A (PyProof.Rows.oneLt' true a b) Q E s := by
  have hal : PySem.W.alikeAll xs ys = true := by simpa [PySem.W.alike] using h
  cases ra with
  | @tuple l o vs n _ as1 h1 h2 h3 h4 =>
    cases rb with
    | @tuple l' o' vs' n' _ bs1 k1 k2 k3 k4 =>
      obtain ⟨c1, d1, e1, g1⟩ := o
      obtain ⟨c2, d2, e2, g2⟩ := o'
      simp only at h2 h3 k2 k3
      subst h2 h3 k2 k3
      have m1 : vs.size = xs.length := by simpa using PySem.SeqAt.ReadsAll.length _ _ _ h4
      have m2 : vs'.size = ys.length := by simpa using PySem.SeqAt.ReadsAll.length _ _ _ k4
      rw [PySem.W.dataLt_tuple, ← PySem.W.firstLt_toks xs ys hal, ← m1, ← m2] at hq
      rw [PyProof.Rows.oneLt'_eq]
      simp only [if_true]
      refine wpAny_bind (wpAny_cRoomFor (PySem.SeqAt.room_here hu) ?_)
      refine wpAny_bind (wpAny_callSpecialIfBound?_slot (T := "tuple") ⟨_, h1, rfl⟩ F.slot_tuple_lt (call_meets F.slot_tuple_lt ⟨_, h1, rfl⟩ F.entry_tuple_lt (F.args_tuple_lt_2 _ _)
        (PySem.SeqAt.tuple_ltAt l l' vs vs' n n' d1 d2 g1 g2 (PySem.SeqAt.pairEq xs ys) fun j => PySem.W.dataLt (xs.getD j .none) (ys.getD j .none)) ⟨h1, k1, fun j j1 j2 => ?_, fun j j1 j2 hj => ?_, ?_⟩))
      · have := PySem.W.eqAt_alikeAll xs ys A.in1 s vs.toList vs'.toList _ _ h4 k4 hal (PySem.SeqAt.room_in hu) j (by simpa using j1) (by simpa using j2)
        simpa using this
      · have := PySem.W.rcLt_alikeAll xs ys A.in1 s vs.toList vs'.toList _ _ h4 k4 hal (PySem.SeqAt.room_in hu) j (by simpa using j1) (by simpa using j2) hj
        simpa using this
      · exact wpAny_truthy_bool hq
theorem firsts_any {M : Model} {A : Around} {s : Shared} {E : Value → Shared → Prop} : ∀ {vs : List Value} {ds : List PyData} {Q : List (Option Value) → Shared → Prop}, PySem.W.EachIs (fun v d => ∃ as, Reads s.heap v d as) vs ds → (∀ d ∈ ds, ∃ xs, d = .tuple xs) →
    (∀ fs : List (Option Value), fs.length = vs.length → (∀ i : Nat, ∀ d, ds[i]? = some d → ((fs[i]?.bind id).isSome = true ↔ d ≠ .tuple [])) → Q fs s) → wpAny M A (vs.mapM PyProof.Rows.firstOfTuple') Q E s
  | _, _, Q, .nil, _, h => by rw [List.mapM_nil]; exact wpAny_pure (h [] rfl fun i d e => by simp at e)
  | _, _, Q, .cons (b := d) ⟨as, r⟩ t, ht, h => by
    obtain ⟨xs, rfl⟩ := ht d (List.mem_cons_self ..)
    rw [List.mapM_cons]
    cases r with
    | @tuple a o vs n _ _ h1 h2 h3 h4 =>
      refine wpAny_bind ?_
      rw [PySem.W.kas_first_eq]
      refine wpAny_bind (PySem.W.Looks.here (show PySem.W.Looks M s.heap (typeOf (.ref a)) o.cls from (PySem.W.Looks.ld h1).andThen .now) ?_)
      rw [h2, if_neg (by first | decide | simp)]
      refine wpAny_bind (listItems_at h1 h3 (wpAny_pure ?_))
      refine wpAny_bind (firsts_any t (fun d hd => ht d (List.mem_cons_of_mem _ hd)) fun fs hl hf => wpAny_pure (h _ (by simp [hl]) fun i d e => ?_))
      cases i with
      | zero =>
        simp only [List.getElem?_cons_zero, Option.some.injEq] at e
        subst e
        have m := PySem.SeqAt.ReadsAll.length _ _ _ h4
        rw [List.getElem?_cons_zero]
        cases xs with
        | nil => simp at m; simp [m]
        | cons x xs =>
          have : 0 < vs.size := by simp at m; omega
          simp [this]
      | succ i =>
        simp only [List.getElem?_cons_succ] at e ⊢
        exact hf i d e
theorem sortsAt_tups {prog : Program} {w : World} {A : Around} {s : Shared} {vs : List Value} {ds : List PyData} (e : PySem.W.EachIs (fun v d => ∃ as, Reads s.heap v d as) vs ds) (hal : PySem.W.AllAlike ds) (ht : ∀ d ∈ ds, ∃ xs, d = .tuple xs) (hu : ∀ d, d ∈ ds → A.units + d.depth < cLine) : PySem.W.SortsAt prog w A s (PySem.W.dataKind s.heap ds) vs := by
  by_cases hall : ∀ d ∈ ds, ∃ x r, d = .tuple (x :: r)
  · exact PySem.W.SortsAt.data e hal (.inl hall) hu
  · have hex : ∃ d ∈ ds, d = .tuple [] := Classical.byContradiction fun z => hall fun d hd => by
      obtain ⟨xs, rfl⟩ := ht d hd
      cases xs with
      | nil => exact absurd ⟨_, hd, rfl⟩ z
      | cons x r => exact ⟨x, r, rfl⟩
    have keys : ∀ v, v ∈ vs → ∃ a, (PySem.W.dataKind s.heap ds).keyOf v = some a := fun v hv => by
      obtain ⟨d, hd, as, r⟩ := e.left v hv
      exact ⟨_, PySem.W.dataKind_some hal hd r⟩
    have room : ∀ {d d' : PyData}, d ∈ ds → A.units + min d.depth d'.depth < cLine := fun {d d'} hd => Nat.lt_of_le_of_lt (Nat.add_le_add_left (Nat.min_le_left _ _) _) (hu d hd)
    obtain ⟨d1, hd1, e1⟩ := hex
    obtain ⟨i1, hi1⟩ := List.mem_iff_getElem?.mp hd1
    have notall : ∀ fs : List (Option Value), fs.length = vs.length → (∀ i : Nat, ∀ d, ds[i]? = some d → ((fs[i]?.bind id).isSome = true ↔ d ≠ .tuple [])) → ¬ (fs.toArray.all (·.isSome)) = true := fun fs hl hf z => by
      have hlt : i1 < fs.length := by rw [hl, e.length]; exact (List.getElem?_eq_some_iff.mp hi1).1
      have h1 := (hf i1 d1 hi1).mp (by
        rw [List.getElem?_eq_getElem hlt]
        have := List.all_eq_true.mp (by simpa using z) fs[i1] (List.getElem_mem hlt)
        simpa using this)
      exact h1 e1
    by_cases hf0 : ∃ d0, ds[0]? = some d0 ∧ d0 ≠ .tuple []
    · refine ⟨keys, PyProof.Rows.general', fun E x y a b Q ha hb hq => ?_, fun h2 E Q hq => ?_⟩
      · obtain ⟨d, as, hd, ra, rfl⟩ := PySem.W.dataKind_inv ha
        obtain ⟨d', as', hd', rb, rfl⟩ := PySem.W.dataKind_inv hb
        obtain ⟨xs, rfl⟩ := ht d hd
        exact PySem.W.oneLt_alike (f := false) (fun z => Bool.noConfusion z) ra rb (hal _ hd d' hd') (fun z => nomatch z) (room hd) hq
      · obtain ⟨d0, h0, h0'⟩ := hf0
        rw [PyProof.Rows.keyKind'_eq, List.mapM_toArray, map_eq_pure_bind]
        refine wpAny_bind (wpAny_bind (firsts_any e ht fun fs hl hf => wpAny_pure ?_))
        rw [if_neg (notall fs hl hf)]
        rw [if_pos (by have := (hf 0 d0 h0).mpr h0'; simpa using this)]
        exact wpAny_pure hq
    · refine ⟨keys, PyProof.Rows.oneType', fun E x y a b Q ha hb hq => ?_, fun h2 E Q hq => ?_⟩
      · obtain ⟨d, as, hd, ra, rfl⟩ := PySem.W.dataKind_inv ha
        obtain ⟨d', as', hd', rb, rfl⟩ := PySem.W.dataKind_inv hb
        obtain ⟨xs, rfl⟩ := ht d hd
        obtain ⟨ys, rfl⟩ := ht d' hd'
        rw [PyProof.Rows.keyLt'_oneType]
        exact one_tup ra rb (hal _ hd _ hd') (room hd) hq
      · rw [PyProof.Rows.keyKind'_eq, List.mapM_toArray, map_eq_pure_bind]
        refine wpAny_bind (wpAny_bind (firsts_any e ht fun fs hl hf => wpAny_pure ?_))
        rw [if_neg (notall fs hl hf)]
        rw [if_neg (fun z => by
          cases q : ds[0]? with
          | none =>
            have hl0 : 0 < ds.length := by rw [← e.length]; omega
            rw [List.getElem?_eq_getElem hl0] at q; cases q
          | some d0 => exact hf0 ⟨d0, q, (hf 0 d0 q).mp (by simpa using z)⟩)]
        refine wpAny_bind (oneType_tups e ht h2 ?_)
        exact wpAny_pure hq
section
variable {X : Cx} {K : PySem.W.Frag} {pins : List (Addr × Obj)} {σ : L2.St} {H : Hp} {s : Shared}
theorem srt_any (I : Inv X pins σ H s) (hu : X.A.units + 64 < cLine) {r : Addr} {xs : List V} {its : List Value} {ds : List PyData} {Q : VK} (rv : Vals xs its) (hz : xs.length ≤ sizeLine) (hd : DpAll X.K H xs ds)
    (coll : ∀ R : List Value → Shared → Prop, (∀ h' tk, (∀ b o, s.heap.get? b = some o → h'.get? b = some o) → s.heap.objs.size ≤ h'.objs.size → R its { s with heap := h', toks := tk }) → wpAny (model X.prog X.w) X.A.in1 (collect (.ref r)) R X.xe s)
    (ha : PySem.W.AllAlike ds) (hk : (∀ d ∈ ds, ∃ xs, d = .tuple xs) ∨ ∀ d ∈ ds, d ≠ .none ∧ ∀ xs, d ≠ .tuple xs) (hdep : ∀ d ∈ ds, d.depth ≤ 32)
    (q : ∀ ys p, DpAll X.K H ys (ds.mergeSort (PySem.W.dataLe false fun d => d)) → H p = none → Q (.ref p) (upd H p (.lst ys))) :
    wpAny (model X.prog X.w) X.A (call (.builtin "sorted") [.ref r]) (EP X pins σ Q) X.xe s := by
  have e1 := each_of rv hd
  have ln : ds.length ≤ sizeLine := by rw [← dpAll_len hd]; exact hz
  have iz : its.length ≤ sizeLine := by rw [← rv.length]; exact hz
  refine sorted_coll iz coll fun h' tk hk' hn0 => ?_
  have hob : (h'.push { cls := .type "list", data := .seq its.toArray }).get? h'.objs.size = some (seqObj "list" its.toArray 0) := Heap.get?_push_size _ rfl
  have kb : ∀ b o, s.heap.get? b = some o → (h'.push { cls := .type "list", data := .seq its.toArray }).get? b = some o := fun b o e => Heap.get?_push_of_some _ (hk' b o e)
  generalize h'.push { cls := .type "list", data := .seq its.toArray } = h2 at hob kb
  have er : PySem.W.EachIs (fun u d => ∃ as, Reads h2 u d as ∧ h'.objs.size ∉ as) its ds := each_mono (fun u d ⟨v, r1, hv⟩ => by
    obtain ⟨as, hr⟩ := Dp.reads I d v u hv r1
    exact ⟨as, PyProof.Rows.Reads.keeps kb hr, fun hm => Nat.not_lt.mpr hn0 (reads_lt hr _ hm)⟩) e1
  have fin : ∀ out : List Value, out.length = ds.length → PySem.W.EachIs (fun u d => ∃ v, RelV v u ∧ Dp X.K H v d) out (ds.mergeSort (PySem.W.dataLe false fun d => d)) → EP X pins σ Q (.ref h'.objs.size) { s with heap := sortedHeap h2 h'.objs.size its (List.toArray out), toks := tk } := fun out ho hE => by
    obtain ⟨ys, rv2, hy⟩ := of_each hE
    obtain ⟨ep, he'⟩ := PyProof.Rows.sortedHeap_at (vs := its) (out := List.toArray out) hob
    have hlen : ys.length ≤ sizeLine := by rw [rv2.length, ho]; exact ln
    have kF : ∀ b o, s.heap.get? b = some o → (sortedHeap h2 h'.objs.size its (List.toArray out)).get? b = some o := fun b o e => (PyProof.Rows.sortedHeap_old (Nat.ne_of_lt (Nat.lt_of_lt_of_le (Heap.lt_size e) hn0)) (Heap.lt_size (kb b o e))).trans (kb b o e)
    exact ⟨.ref _, upd H h'.objs.size (.lst ys), I.laid (t' := tk) kF hn0 ⟨hlen, out, ep, rv2, he'⟩, rfl, q ys _ hy (I.hok.fresh hn0)⟩
  rcases hk with hk | hk
  · have er2 : PySem.W.EachIs (fun u d => ∃ as, Reads (PySem.W.sortingHeap h2 h'.objs.size its) u d as) its ds := by
      have := PySem.W.each_keepBut (bs := ds) (enc := fun d : PyData => d) (h' := PySem.W.sortingHeap h2 h'.objs.size its) (fun _ _ hb q => PySem.W.sortingHeap_old hb q) (fun o q => by rw [hob] at q; rw [← Option.some.inj q]) (by rw [List.map_id']; exact ha) er
      exact this
    refine wpAny_call_entry PyProof.Rows.slot_list_sort ⟨_, hob, rfl⟩ PyProof.Rows.entry_list_sort (PySem.W.list_sort_vals hob (sortsAt_tups (s := { s with heap := PySem.W.sortingHeap h2 h'.objs.size its, toks := tk }) er2 ha hk fun d hm => by have := hdep d hm; show _ + 1 + 1 + _ < _; omega) iz ?_) (PyProof.Rows.args_list_sort _)
    refine ⟨.none, rfl, fin _ (by rw [PySem.W.sortVals_length false rfl]; exact e1.length) ?_⟩
    have := PySem.W.sortVals_data (h' := PySem.W.sortingHeap h2 h'.objs.size its) (enc := fun d : PyData => d) false e1 er2 (by rw [List.map_id']; exact ha)
    rw [List.map_id'] at this
    exact this
  · exact PySem.W.list_sort_data (s := { s with heap := h2, toks := tk }) (enc := fun d : PyData => d) hob e1 er (by rw [List.map_id']; exact ha) (.inr (by rw [List.map_id']; exact hk)) ln (fun d hm => by have := hdep d hm; show _ + 1 + 1 + _ < _; omega) fun out ho hE => fin out ho hE
def rSortedW (K : PySem.W.Frag) : List V → Hp → VK → Prop := fun vs H Q => ∃ (a : Addr) (xs : List V) (ds : List PyData), vs = [.ref a] ∧ SqL K H a xs ∧ DpAll K H xs ds ∧ PySem.W.AllAlike ds ∧ ((∀ d ∈ ds, ∃ xs, d = .tuple xs) ∨ ∀ d ∈ ds, d ≠ .none ∧ ∀ xs, d ≠ .tuple xs) ∧ (∀ d ∈ ds, d.depth ≤ 32) ∧
  ∀ ys p, DpAll K H ys (ds.mergeSort (PySem.W.dataLe false fun d => d)) → H p = none → Q (.ref p) (upd H p (.lst ys))
theorem cW_sorted (e : X.K = K) (hu : X.A.units + 64 < cLine) : CallR X (.builtin "sorted") (rSortedW K) := by
  subst e
  intro pins s σ H vs us Q I r h
  obtain ⟨a, xs, ds, rfl, hs, hd, ha, hk, hdep, q⟩ := h
  obtain ⟨its, rv, ⟨o, n, ho, hc, _, hdat⟩, hz⟩ := I.list hs
  rw [Vals.ref1 r]
  exact srt_any I hu rv hz hd (fun R k => coll_seq (.inl rfl) ho hc hdat (by rw [List.size_toArray, ← rv.length]; exact hz) fun h' hk hl => k h' s.toks hk hl) ha hk hdep q
end
end Sl
namespace Sl
open PySem PySem.Spec PyProof.Rows L2
end Sl
namespace Mi
open PySem PySem.Spec PyProof.Rows L2
open Sl (isTup sz szl slt)
/-! ### data in order -/
def ltI (x y : Int) : Bool := decide (x < y)
def ltT (x y : Str) : Bool := decide (slt x y)
def ltL {α : Type} [DecidableEq α] (lt : α → α → Bool) : List α → List α → Bool
  | _, [] => false
  | [], _ :: _ => true
  | x :: xs, y :: ys => if x = y then ltL lt xs ys else lt x y
def ltP {α β : Type} [DecidableEq α] [DecidableEq β] (l1 : α → α → Bool) (l2 : β → β → Bool) (x y : α × β) : Bool := if x.1 = y.1 then (if x.2 = y.2 then false else l2 x.2 y.2) else l1 x.1 y.1
def gdL {α : Type} (_ : List α) : Bool := true
def gdA {α : Type} (_ : α) : Bool := true
class Od (K : PySem.W.Frag) {α : Type} [DecidableEq α] (t : α → Pv) extends Dat K t where
  lt : α → α → Bool
  gd : α → Bool
  ltE : ∀ x y, PySem.W.dataLt (enc x) (enc y) = lt x y
  alk : ∀ x y, PySem.W.alike (enc x) (enc y) = true
  sk : (∀ x, ∃ ds, enc x = .tuple ds) ∨ (∀ x, enc x ≠ .none ∧ ∀ ds, enc x ≠ .tuple ds)
  nn : ∀ x, enc x ≠ .none
  fit : α → Prop
  ofp : ∀ x S H v, (t x).p S H v → fit x
  back : ∀ x S H v, Dp K H v (enc x) → fit x → (t x).p S H v
section
variable {K : PySem.W.Frag} {α β γ : Type} [DecidableEq α] [DecidableEq β] {t : α → Pv} {u : β → Pv}
instance : Od K yInt := { lt := ltI, gd := gdA, ltE := PySem.W.dataLt_int, alk := fun _ _ => rfl, sk := .inr fun _ => ⟨fun z => (nomatch z), fun _ z => nomatch z⟩, nn := fun _ z => (nomatch z), fit := fun _ => True, ofp := fun _ _ _ _ _ => trivial, back := fun x S H v h _ => by cases h; rfl }
instance : Od K yStr := { lt := ltT, gd := gdA, ltE := PySem.W.dataLt_str, alk := fun _ _ => rfl, sk := .inr fun _ => ⟨fun z => (nomatch z), fun _ z => nomatch z⟩, nn := fun _ z => (nomatch z), fit := fun _ => True, ofp := fun _ _ _ _ _ => trivial, back := fun x S H v h _ => by cases h; rfl }
theorem rowLt_of [D : Od K t] : ∀ xs ys : List α, PySem.W.rowLt (xs.map D.enc) (ys.map D.enc) = ltL D.lt xs ys
  | [], [] => by
    rw [List.map_nil]
    show PySem.W.rowLt [] [] = false
    decide +kernel
  | [], y :: ys => by
    rw [List.map_nil, List.map_cons]
    show PySem.W.rowLt [] _ = true
    unfold PySem.W.rowLt
    rw [PySem.W.toks_all_cons, show PySem.W.keyToksAll [] = [Sum.inl 0] by rw [PySem.W.keyToksAll], PySem.W.lex_atom (by decide), PySem.W.lex_one]
    decide
  | x :: xs, [] => by
    rw [List.map_nil, List.map_cons]
    show PySem.W.rowLt _ [] = false
    unfold PySem.W.rowLt
    rw [PySem.W.toks_all_cons, show PySem.W.keyToksAll [] = [Sum.inl 0] by rw [PySem.W.keyToksAll], PySem.W.lex_atom (by decide), PySem.W.lex_one]
    decide
  | x :: xs, y :: ys => by
    show PyProof.Rows.lexLt _ _ _ = _
    rw [List.map_cons, List.map_cons, PySem.W.dataLt_cons (D.alk x y)]
    show _ = if x = y then ltL D.lt xs ys else D.lt x y
    by_cases e : x = y
    · rw [if_pos ((D.eq x y).mpr e), if_pos e]; exact rowLt_of xs ys
    · rw [if_neg fun z => e ((D.eq x y).mp z), if_neg e]; exact D.ltE x y
theorem alikes_of [D : Od K t] : ∀ xs ys : List α, PySem.W.alikeAll (xs.map D.enc) (ys.map D.enc) = true
  | [], _ => by simp [PySem.W.alikeAll]
  | _ :: _, [] => by simp [PySem.W.alikeAll]
  | x :: xs, y :: ys => by rw [List.map_cons, List.map_cons, PySem.W.alikeAll, D.alk x y, alikes_of xs ys]; rfl
theorem fits_of [D : Od K t] {S : Fz} {H : Hp} : ∀ {vs : List V} {xs : List α}, PsOk S H vs (xs.map t) → ∀ x ∈ xs, D.fit x
  | [], [], _, _, h => nomatch h
  | [], _ :: _, h, _, _ => False.elim h
  | _ :: _, [], h, _, _ => False.elim h
  | v :: vs, y :: ys, h, x, hx => by
    rcases List.mem_cons.mp hx with e | hx
    · rw [e]; exact D.ofp y S H v h.1
    · exact fits_of h.2 x hx
theorem backs_of [D : Od K t] {S : Fz} {H : Hp} : ∀ {vs : List V} {xs : List α}, DpAll K H vs (xs.map D.enc) → (∀ x ∈ xs, D.fit x) → PsOk S H vs (xs.map t)
  | [], [], _, _ => trivial
  | [], _ :: _, h, _ => nomatch h
  | _ :: _, [], h, _ => nomatch h
  | v :: vs, x :: xs, .cons h hs, f => ⟨D.back x S H v h (f x (List.mem_cons_self ..)), backs_of hs fun y hy => f y (List.mem_cons_of_mem _ hy)⟩
theorem dpAll_length {H : Hp} : ∀ {vs : List V} {ds : List PyData}, DpAll K H vs ds → vs.length = ds.length
  | _, _, .nil => rfl
  | _, _, .cons _ h => congrArg Nat.succ (dpAll_length h)
theorem dp_tup {H : Hp} {v : V} {ds : List PyData} (h : Dp K H v (.tuple ds)) : ∃ a vs, v = .ref a ∧ SqT K H a vs ∧ DpAll K H vs ds := by
  cases h with
  | tup h1 h2 => exact ⟨_, _, rfl, h1, h2⟩
theorem dpAll2 {H : Hp} {vs : List V} {d e : PyData} (h : DpAll K H vs [d, e]) : ∃ v w, vs = [v, w] ∧ Dp K H v d ∧ Dp K H w e := by
  cases h with
  | cons h hs => cases hs with
    | cons h' ht => cases ht with
      | nil => exact ⟨_, _, rfl, h, h'⟩
instance [D : Od K t] : Od K (fun xs : List α => yTup K t xs) := {
  lt := ltL D.lt, gd := gdL
  ltE := fun xs ys => by
    show PySem.W.dataLt (.tuple _) (.tuple _) = _
    rw [PySem.W.dataLt_tuple]; exact rowLt_of xs ys
  alk := fun xs ys => by
    show PySem.W.alike (.tuple _) (.tuple _) = true
    rw [PySem.W.alike]; exact alikes_of xs ys
  sk := .inl fun xs => ⟨_, rfl⟩
  nn := fun _ z => nomatch z
  fit := fun xs => xs.length ≤ sizeLine ∧ ∀ x ∈ xs, D.fit x
  ofp := fun xs S H v ⟨a, vs, _, _, h, hl⟩ => ⟨by rw [← (List.length_map (f := t)), ← h.length]; exact hl, fits_of h⟩
  back := fun xs S H v h f => by
    have h : Dp K H v (.tuple (xs.map D.enc)) := h
    obtain ⟨a, vs, rfl, h1, h2⟩ := dp_tup h
    exact ⟨a, vs, rfl, h1, backs_of h2 f.2, by rw [dpAll_length h2, List.length_map]; exact f.1⟩ }
instance [D : Od K t] [D' : Od K u] : Od K (yPr K t u) := {
  lt := ltP D.lt D'.lt, gd := gdA
  ltE := fun x y => by
    show PySem.W.dataLt (.tuple [_, _]) (.tuple [_, _]) = _
    rw [PySem.W.dataLt_pair (D.alk _ _) (D'.alk _ _)]
    unfold ltP
    by_cases e : x.1 = y.1
    · rw [if_pos ((D.eq _ _).mpr e), if_pos e]
      by_cases e2 : x.2 = y.2
      · rw [if_pos ((D'.eq _ _).mpr e2), if_pos e2]
      · rw [if_neg fun z => e2 ((D'.eq _ _).mp z), if_neg e2]; exact D'.ltE _ _
    · rw [if_neg fun z => e ((D.eq _ _).mp z), if_neg e]; exact D.ltE _ _
  alk := fun x y => by
    show PySem.W.alike (.tuple [_, _]) (.tuple [_, _]) = true
    rw [PySem.W.alike, PySem.W.alikeAll, D.alk, PySem.W.alikeAll, D'.alk]; simp [PySem.W.alikeAll]
  sk := .inl fun _ => ⟨_, rfl⟩
  nn := fun _ z => nomatch z
  fit := fun x => D.fit x.1 ∧ D'.fit x.2
  ofp := fun x S H v ⟨a, vs, _, _, h, _⟩ => by
    match vs, h with
    | [v1, v2], h => exact ⟨D.ofp _ _ _ _ h.1, D'.ofp _ _ _ _ h.2.1⟩
  back := fun x S H v h f => by
    have h : Dp K H v (.tuple [D.enc x.1, D'.enc x.2]) := h
    obtain ⟨a, vs, rfl, h1, h2⟩ := dp_tup h
    obtain ⟨v1, v2, rfl, p, q⟩ := dpAll2 h2
    exact ⟨a, [v1, v2], rfl, h1, ⟨D.back _ _ _ _ p f.1, D'.back _ _ _ _ q f.2, trivial⟩, by rw [sizeLine_eq]; show 2 ≤ 16777216; omega⟩ }
end
def sortB {α : Type} (lt : α → α → Bool) (xs : List α) : List α := xs.mergeSort fun a b => !lt b a
def psortB {α : Type} (lt : α → α → Bool) (gd : α → Bool) (xs : List α) : Res (List α) := .ok (sortB lt xs)
def sortLen {α : Type} (xs : List (List α)) : List (List α) := xs.mergeSort fun a b => decide (a.length ≤ b.length)
section
variable {ρ : Type} {A : Nat → Addr} {E : L2.St → XK} {K : PySem.W.Frag} {Γ : Ctx} {c : Res ρ} {κ : Ctx → Vo → Res ρ → Prop} {α β : Type} {t : α → Pv} {te td tke tve : TE} {tr : TA} {i : Nat}
theorem srt_of [DecidableEq α] [D : Od K t] (hn : D.n ≤ 32) {xs : List α} {S : Fz} {H : Hp} {ws : List V} (hw : PsOk S H ws (xs.map t)) (hl : ws.length ≤ sizeLine) : DpAll K H ws (xs.map D.enc) ∧ PySem.W.AllAlike (xs.map D.enc) ∧ ((∀ d ∈ xs.map D.enc, ∃ ds, d = .tuple ds) ∨ ∀ d ∈ xs.map D.enc, d ≠ .none ∧ ∀ ds, d ≠ .tuple ds) ∧ (∀ d ∈ xs.map D.enc, d.depth ≤ 32) ∧
    ∀ ys, DpAll K H ys ((xs.map D.enc).mergeSort (PySem.W.dataLe false fun d => d)) → PsOk S H ys ((sortB D.lt xs).map t) ∧ ys.length ≤ sizeLine := by
  have me : ∀ d ∈ xs.map D.enc, ∃ x, x ∈ xs ∧ d = D.enc x := fun d hd => by
    obtain ⟨x, hx, rfl⟩ := List.mem_map.mp hd; exact ⟨x, hx, rfl⟩
  refine ⟨dps_of hw, fun d hd d' hd' => ?_, ?_, fun d hd => ?_, fun ys hy => ?_⟩
  · obtain ⟨x, _, rfl⟩ := me d hd
    obtain ⟨y, _, rfl⟩ := me d' hd'
    exact D.alk x y
  · rcases D.sk with s | s
    · exact .inl fun d hd => by
        obtain ⟨x, hx, rfl⟩ := me d hd
        exact s x
    · exact .inr fun d hd => by
        obtain ⟨x, hx, rfl⟩ := me d hd
        exact s x
  · obtain ⟨x, hx, rfl⟩ := me d hd
    exact Nat.le_trans (dep_mem (K := K) hw x hx) hn
  · have e : (xs.map D.enc).mergeSort (PySem.W.dataLe false fun d => d) = (sortB D.lt xs).map D.enc := by
      unfold sortB
      rw [List.map_mergeSort (s := PySem.W.dataLe false fun d => d)]
      intro x _ y _
      rw [PySem.W.dataLe_eq]
      show (!D.lt y x) = (!PySem.W.dataLt (D.enc y) (D.enc x))
      rw [D.ltE]
    rw [e] at hy
    have pm : (sortB D.lt xs).Perm xs := List.mergeSort_perm ..
    have hf : ∀ x ∈ sortB D.lt xs, D.fit x := fun x hx => fits_of hw x (pm.mem_iff.mp hx)
    exact ⟨backs_of hy hf, by rw [dpAll_length hy, List.length_map, pm.length_eq, ← List.length_map (f := t), ← hw.length]; exact hl⟩
theorem rc_sortQ [DecidableEq α] [D : Od K t] (hn : D.n ≤ 32) {xs : List α} {k : List α → Res ρ} (e : c = (psortB D.lt D.gd xs).bind k) (h : ∀ ys, κ Γ (.own (wLst K t ys)) (k ys)) : RC A E (fun _ => Sl.rSortedW K) [.val (yLst K t xs)] Γ c κ := fun F T S σ H vs Q' O R hc hg kk => by
  subst e
  obtain ⟨v, rfl, hv⟩ := ag1 hg
  obtain ⟨a, ws, rfl, hs, hw, hl⟩ := hv
  obtain ⟨q1, q2, q3, q4, q5⟩ := srt_of (K := K) hn hw hl
  exact ⟨a, ws, xs.map D.enc, rfl, hs.1, q1, q2, q3, q4, fun ys p hy hp => kk _ _ _ (h _) S _ _ (R.new hp) (le_new hp) (isOwn R hp ⟨ys, rfl, (q5 ys hy).1.up (le_new hp), (q5 ys hy).2⟩) hc⟩
theorem wx_sortLen (h : WA A E Γ tr c fun Γ1 gs c1 => ∃ xs : List (List α), gs = [.val (yLst K (fun x => yTup K t x) xs)] ∧ κ Γ1 (.own (wLst K (fun x => yTup K t x) (sortLen xs))) c1) : WX A E Γ (Sl.tSortLen K tr) c κ := fun F T S σ H Q O R hc k => by
  refine h F T S σ H _ O R hc fun Γ1 gs c1 h1 S1 H1 vs R1 l1 p1 hc1 => ?_
  obtain ⟨xs, rfl, h1⟩ := h1
  obtain ⟨v, rfl, a, ws, rfl, hs, hw, hl⟩ := ag1 p1
  have tl : ∀ {ws : List V} {xs : List (List α)}, PsOk S1 H1 ws (xs.map fun x => yTup K t x) → Sl.TLn K H1 ws (xs.map List.length) := by
    intro ws xs h
    induction ws generalizing xs with
    | nil => cases xs with
      | nil => exact .nil
      | cons x xs => exact False.elim h
    | cons w ws ih => cases xs with
      | nil => exact False.elim h
      | cons x xs =>
        obtain ⟨⟨b, ys, rfl, hb, hy, _⟩, h2⟩ := h
        have := hy.length
        rw [List.length_map] at this
        rw [List.map_cons, ← this]
        exact .cons hb (ih h2)
  refine ⟨a, ws, xs.map List.length, rfl, hs.1, tl hw, fun p hp => ?_⟩
  have lx : ws.length = xs.length := by have := hw.length; rwa [List.length_map] at this
  -- the items, each with its plain value
  have hz : ∀ q ∈ ws.zip xs, (yTup K t q.2).p S1 H1 q.1 := by
    clear h h1 hs hl p1
    intro q hq
    induction ws generalizing xs with
    | nil => simp at hq
    | cons w ws ih => cases xs with
      | nil => simp at hq
      | cons x xs =>
        rcases List.mem_cons.mp hq with e | hq
        · rw [e]; exact hw.1
        · exact ih xs hw.2 (by simpa using lx) hq
  let Z := (ws.zip xs).mergeSort fun a b => decide (a.2.length ≤ b.2.length)
  have e1 : (Sl.sortLn ws (xs.map List.length)).map (·.1) = Z.map (·.1) := by
    have e : ws.zip (xs.map List.length) = (ws.zip xs).map fun q => (q.1, q.2.length) := by rw [List.zip_map_right]; rfl
    unfold Sl.sortLn
    rw [e, ← List.map_mergeSort (r := fun a b : V × List α => decide (a.2.length ≤ b.2.length)) fun _ _ _ _ => rfl, List.map_map]
    rfl
  have e2 : Z.map (·.2) = sortLen xs := by
    show List.map _ (List.mergeSort _ _) = _
    rw [List.map_mergeSort (s := fun a b : List α => decide (a.length ≤ b.length)) fun _ _ _ _ => rfl, List.map_snd_zip (by omega)]
    rfl
  have pm : Z.Perm (ws.zip xs) := List.mergeSort_perm ..
  have ok : ∀ {H' : Hp}, Le S1 H1 S1 H' → PsOk S1 H' (Z.map (·.1)) ((sortLen xs).map fun x => yTup K t x) := fun {H'} l => by
    rw [← e2]
    have : ∀ {L : List (V × List α)}, (∀ q ∈ L, (yTup K t q.2).p S1 H1 q.1) → PsOk S1 H' (L.map (·.1)) ((L.map (·.2)).map fun x => yTup K t x) := by
      intro L hL
      induction L with
      | nil => trivial
      | cons q L ih => exact ⟨(yTup K t q.2).up l (hL q (List.mem_cons_self ..)), ih fun r hr => hL r (List.mem_cons_of_mem _ hr)⟩
    exact this fun q hq => hz q (pm.mem_iff.mp hq)
  rw [e1]
  refine k _ _ _ h1 S1 _ _ (R1.new hp) (l1.trans (le_new hp)) (isOwn R1 hp ⟨_, rfl, ok (le_new hp), ?_⟩) hc1
  rw [List.length_map, pm.length_eq, List.length_zip, lx, Nat.min_self, ← lx]; exact hl
/-- membership, by the one decision of equality -/
def pin {α : Type} [DecidableEq α] (x : α) (ys : List α) : Bool := decide (x ∈ ys)
theorem rx_inP (p : List Pv → Pv) [Q : SeqK K p] [DecidableEq α] [D : Dat K t] (hn : D.n ≤ 32) {x : α} {ys : List α} (h : κ Γ (.val (yBl (pin x ys))) c) : RX A E (Sl.rInP K false) (t x) (p (ys.map t)) Γ c κ := rx_inD p hn h
theorem rx_ninP (p : List Pv → Pv) [Q : SeqK K p] [DecidableEq α] [D : Dat K t] (hn : D.n ≤ 32) {x : α} {ys : List α} (h : κ Γ (.val (yBl (!pin x ys))) c) : RX A E (Sl.rInP K true) (t x) (p (ys.map t)) Γ c κ := rx_ninD p hn h
/-! sorted(d.items()) -/
theorem kvs_of {κ' : Type} [DKey κ'] [I : Scal α t] {S : Fz} {H : Hp} : ∀ {kvs : List (Key × V)} {d : List (κ' × α)}, KpOk S H kvs (kpl t d) → kvs = d.map fun q => (DKey.ky q.1, I.enc q.2)
  | [], [], _ => rfl
  | [], _ :: _, h => False.elim h
  | _ :: _, [], h => False.elim h
  | kv :: kvs, q :: d, h => by
    rw [List.map_cons, ← kvs_of h.2]
    have h1 : kv.1 = _ := h.1.1
    have h2 := I.is _ _ _ _ h.1.2
    rw [← h2]
    exact congrArg (· :: kvs) (Prod.ext h1 rfl)
theorem wx_sortSI (h : WX A E Γ td c fun Γ1 V c1 => ∃ d : List (Str × Int), V = .val (yDct yInt d) ∧ κ Γ1 (.own (wLst K (yPr K yStr yInt) (d.mergeSort Sl.leSI))) c1) : WX A E Γ (tCB Sl.rSortSI (tCons (Sl.tItemsK td) tNil)) c κ := fun F T S σ H Q O R hc k => by
  refine h F T S σ H _ O R hc fun Γ1 V c1 h1 S1 H1 x R1 l1 p1 hc1 => ?_
  obtain ⟨d, rfl, h1⟩ := h1
  obtain ⟨a, kvs, rfl, hs, hr, hk, hl⟩ := p1
  have ek := kvs_of hk
  subst ek
  refine ⟨⟨a, rfl, .inl ⟨_, hr⟩⟩, a, _, rfl, rfl, hr, fun p hp => ?_⟩
  have hap : a ≠ p := fun z => by
    rw [z] at hr
    rcases hr with e | ⟨_, e⟩ <;> (rw [hp] at e; cases e)
  refine ⟨p, a, d, rfl, upd_same, ?_, fun H' l zs hzs kp hn hlst ht => ?_⟩
  · rcases hr with e | ⟨o, e⟩
    · exact .inl (by rw [upd_ne hap]; exact e)
    · exact .inr ⟨o, by rw [upd_ne hap]; exact e⟩
  · have R2 := R1.new (o := L2.DX.itemsO p a) hp
    have l2 := l1.trans (le_new (o := L2.DX.itemsO p a) hp)
    have l3 : Le S1 (upd H1 p (L2.DX.itemsO p a)) S1 H' := .ex (fun _ h => h) (fun b o e _ => kp b o e)
    have R3 : Rel F Γ1 S1 σ H' := R2.move l3 (fun b o e _ => kp b o e) (fun b h => .inl h) (fun b h => by
      have := R2.fr.sd b h
      cases e : upd H1 p (L2.DX.itemsO p a) b with
      | none => exact absurd e this
      | some o => rw [kp b o e]; exact fun z => nomatch z) (fun b h => by
      cases e : upd H1 p (L2.DX.itemsO p a) b with
      | none => exact absurd e h
      | some o => rw [kp b o e]; exact fun z => nomatch z) fun i b O a o _ _ e w => ⟨o, kp a o e, O.up l3 w⟩
    have ps : PsOk S1 H' (zs.map fun z => V.ref z.1) ((d.mergeSort Sl.leSI).map (yPr K yStr yInt)) := by
      rw [← hzs]
      clear hzs hlst
      induction zs with
      | nil => trivial
      | cons z zs ih => exact ⟨⟨z.1, _, rfl, .inl (.inl (ht z (List.mem_cons_self ..))), ⟨rfl, rfl, trivial⟩, by rw [sizeLine_eq]; show 2 ≤ 16777216; omega⟩, ih fun w hw => ht w (List.mem_cons_of_mem _ hw)⟩
    refine k _ _ _ h1 S1 H' _ R3 (l2.trans l3) ⟨l, _, rfl, hlst, ⟨_, rfl, ps, ?_⟩, R2.fr.nfz hn, .inr (R2.fr.fresh hn), fun z => z.dom R2 hn⟩ hc1
    rw [List.length_map] at hl
    have : zs.length = d.length := by rw [← List.length_map (f := (·.2)), hzs, (List.mergeSort_perm ..).length_eq]
    rw [List.length_map, this]; exact hl
/-! {**d, k: v} -/
def Simp (Γ : Ctx) (te : TE) (P : Pv) : Prop := ∀ (F : Fr) (S : Fz) (σ : L2.St) (H : Hp), Rel F Γ S σ H → ∃ v, P.p S H v ∧ ∀ (H' : Hp) (Q : VK), Q v H' → te σ H' Q
theorem simp_var {P : Pv} (hg : Γ[i]? = some (.val P)) : Simp Γ (tVar i) P := fun F S σ H R => by
  obtain ⟨v, e, hv⟩ := R.val i P hg
  exact ⟨v, hv, fun H' Q q => ⟨v, e, q⟩⟩
section
variable {κ' : Type} [DecidableEq κ'] {tk : κ' → Pv} [KV : KeyV κ' tk]
def dcopy {κ α : Type} [DecidableEq κ] (d : List (κ × α)) : List (κ × α) := d.foldl (fun a kv => dput a kv.1 kv.2) []
def pdstar {κ α : Type} [DecidableEq κ] (d : List (κ × α)) (k : κ) (x : α) : Res (List (κ × α)) := if d.length < 100000 then .ok (dput (dcopy d) k x) else .bad
/-! dicts that are alike -/
end
end
end Mi
namespace Mi
open PySem PySem.Spec PyProof.Rows L2
open Sl (isTup sz szl slt)
section
variable {ρ : Type} {A : Nat → Addr} {E : L2.St → XK} {K : PySem.W.Frag} {Γ : Ctx} {c : Res ρ} {κ : Ctx → Vo → Res ρ → Prop} {ta tb tc : TE} {r r' : R2}
/-- a < b < c; the third part is plain -/
theorem wx_chain (h : WX A E Γ ta c fun Γ1 V1 c1 => ∃ P1, V1 = .val P1 ∧ WX A E Γ1 tb c1 fun Γ2 V2 c2 => ∃ P2, V2 = .val P2 ∧ RX A E r P1 P2 Γ2 c2 fun Γ3 V3 c3 => ∃ b1 b2, V3 = .val (yBl b1) ∧
    (b1 = true → WX A E Γ3 tc c3 fun Γ4 V4 c4 => ∃ P4, V4 = .val P4 ∧ RX A E r' P2 P4 Γ4 c4 fun Γ5 V5 c5 => Γ5 = Γ3 ∧ c5 = c3 ∧ V5 = .val (yBl b2)) ∧ κ Γ3 (.val (yBl (b1 && b2))) c3) : WX A E Γ (tChain r r' ta tb tc) c κ := fun F T S σ H Q O R hc k => by
  refine h F T S σ H _ O R hc fun Γ1 V1 c1 h1 S1 H1 x R1 l1 p1 hc1 => ?_
  obtain ⟨P1, rfl, h1⟩ := h1
  refine h1 F T S1 σ H1 _ O R1 hc1 fun Γ2 V2 c2 h2 S2 H2 y R2 l2 p2 hc2 => ?_
  obtain ⟨P2, rfl, h2⟩ := h2
  refine h2 F T S2 σ H2 x y _ O R2 hc2 (P1.up l2 p1) p2 fun Γ3 V3 c3 h3 S3 H3 z R3 l3 p3 hc3 => ?_
  obtain ⟨b1, b2, rfl, h3⟩ := h3
  refine ⟨b1, p3, ?_⟩
  have l := (l1.trans l2).trans l3
  cases b1 with
  | false => exact k _ _ _ h3.2 S3 H3 _ R3 l rfl hc3
  | true =>
    refine h3.1 rfl F T S3 σ H3 _ O R3 hc3 fun Γ4 V4 c4 h4 S4 H4 w R4 l4 p4 hc4 => ?_
    obtain ⟨P4, rfl, h4⟩ := h4
    refine h4 F T S4 σ H4 y w _ O R4 hc4 (P2.up (l3.trans l4) p2) p4 fun Γ5 V5 c5 h5 S5 H5 u R5 l5 p5 hc5 => ?_
    obtain ⟨rfl, rfl, rfl⟩ := h5
    exact k _ _ _ h3.2 S5 H5 _ R5 ((l.trans l4).trans l5) p5 hc5
end
end Mi
namespace Sl
open PySem PySem.Spec PyProof.Rows L2
/-! ### match: sequences of texts and names -/
end Sl
namespace Mi
open PySem PySem.Spec PyProof.Rows L2
open Sl (isTup sz szl slt)
/-! ### data of mixed kinds: ints, texts, None, tuples of such -/
inductive Dy | non | int (i : Int) | str (s : Str) | tup (xs : List Dy)
mutual
def decDy : (a b : Dy) → Decidable (a = b)
  | .non, .non => .isTrue rfl
  | .int i, .int j => if h : i = j then .isTrue (by rw [h]) else .isFalse fun e => h (by injection e)
  | .str i, .str j => if h : i = j then .isTrue (by rw [h]) else .isFalse fun e => h (by injection e)
  | .tup xs, .tup ys => match decDys xs ys with
    | .isTrue h => .isTrue (by rw [h])
    | .isFalse h => .isFalse fun e => h (by injection e)
  | .non, .int _ => .isFalse nofun
  | .non, .str _ => .isFalse nofun
  | .non, .tup _ => .isFalse nofun
  | .int _, .non => .isFalse nofun
  | .int _, .str _ => .isFalse nofun
  | .int _, .tup _ => .isFalse nofun
  | .str _, .non => .isFalse nofun
  | .str _, .int _ => .isFalse nofun
  | .str _, .tup _ => .isFalse nofun
  | .tup _, .non => .isFalse nofun
  | .tup _, .int _ => .isFalse nofun
  | .tup _, .str _ => .isFalse nofun
def decDys : (a b : List Dy) → Decidable (a = b)
  | [], [] => .isTrue rfl
  | [], _ :: _ => .isFalse nofun
  | _ :: _, [] => .isFalse nofun
  | x :: xs, y :: ys => match decDy x y, decDys xs ys with
    | .isTrue h, .isTrue k => .isTrue (by rw [h, k])
    | .isFalse h, _ => .isFalse fun e => h (by injection e)
    | _, .isFalse k => .isFalse fun e => k (by injection e)
end
instance : DecidableEq Dy := decDy
instance : Inhabited Dy := ⟨.non⟩
mutual
def encDy : Dy → PyData
  | .non => .none
  | .int i => .int i
  | .str s => .str s
  | .tup xs => .tuple (encDys xs)
def encDys : List Dy → List PyData
  | [] => []
  | x :: xs => encDy x :: encDys xs
end
mutual
def yDy0 (K : PySem.W.Frag) : Dy → Pv
  | .non => yNon
  | .int i => yInt i
  | .str s => yStr s
  | .tup xs => pTup K (yDys0 K xs)
def yDys0 (K : PySem.W.Frag) : List Dy → List Pv
  | [] => []
  | x :: xs => yDy0 K x :: yDys0 K xs
end
def yDy (K : PySem.W.Frag) (d : Dy) : Pv := ⟨fun S H v => (encDy d).depth ≤ 16 ∧ (yDy0 K d).p S H v, fun l h => ⟨h.1, (yDy0 K d).up l h.2⟩⟩
section
variable {K : PySem.W.Frag}
mutual
theorem dpDy {S : Fz} {H : Hp} : ∀ (x : Dy) (v : V), (yDy0 K x).p S H v → Dp K H v (encDy x)
  | .non, v, h => by rw [show v = .non from h]; exact .non
  | .int i, v, h => by rw [show v = .int i from h]; exact .int i
  | .str i, v, h => by rw [show v = .str i from h]; exact .str i
  | .tup xs, v, h => by
    obtain ⟨a, vs, e, h1, h2, _⟩ := h
    rw [e]; exact .tup h1 (dpDys xs vs h2)
theorem dpDys {S : Fz} {H : Hp} : ∀ (xs : List Dy) (vs : List V), PsOk S H vs (yDys0 K xs) → DpAll K H vs (encDys xs)
  | [], [], _ => .nil
  | [], _ :: _, h => False.elim h
  | _ :: _, [], h => False.elim h
  | x :: xs, v :: vs, h => .cons (dpDy x v h.1) (dpDys xs vs h.2)
end
mutual
theorem plDy : ∀ x : Dy, (encDy x).plain = true
  | .non => rfl
  | .int _ => rfl
  | .str _ => rfl
  | .tup xs => by rw [encDy, PyData.plain]; exact plDys xs
theorem plDys : ∀ xs : List Dy, PyData.plainAll (encDys xs) = true
  | [] => rfl
  | x :: xs => by rw [encDys, PyData.plainAll, plDy x, plDys xs]; rfl
end
mutual
theorem eqDy : ∀ x y : Dy, PyData.eqv (encDy x) (encDy y) = true ↔ x = y
  | .non, .non => by simp [encDy, PyData.eqv]
  | .int i, .int j => by simp [encDy, PyData.eqv]
  | .str i, .str j => by simp [encDy, PyData.eqv]
  | .tup xs, .tup ys => by rw [encDy, encDy, PyData.eqv, eqDys xs ys]; simp
  | .non, .int _ => by simp [encDy, PyData.eqv]
  | .non, .str _ => by simp [encDy, PyData.eqv]
  | .non, .tup _ => by simp [encDy, PyData.eqv]
  | .int _, .non => by simp [encDy, PyData.eqv]
  | .int _, .str _ => by simp [encDy, PyData.eqv]
  | .int _, .tup _ => by simp [encDy, PyData.eqv]
  | .str _, .non => by simp [encDy, PyData.eqv]
  | .str _, .int _ => by simp [encDy, PyData.eqv]
  | .str _, .tup _ => by simp [encDy, PyData.eqv]
  | .tup _, .non => by simp [encDy, PyData.eqv]
  | .tup _, .int _ => by simp [encDy, PyData.eqv]
  | .tup _, .str _ => by simp [encDy, PyData.eqv]
theorem eqDys : ∀ xs ys : List Dy, PyData.eqvAll (encDys xs) (encDys ys) = true ↔ xs = ys
  | [], [] => by simp [encDys, PyData.eqvAll]
  | [], _ :: _ => by simp [encDys, PyData.eqvAll]
  | _ :: _, [] => by simp [encDys, PyData.eqvAll]
  | x :: xs, y :: ys => by rw [encDys, encDys, PyData.eqvAll, Bool.and_eq_true, eqDy x y, eqDys xs ys]; simp
end
instance : Dat K (yDy K) := ⟨encDy, fun x S H v h => dpDy x v h.2, plDy, 16, fun x S H v h => h.1, eqDy⟩
end
/-! into it -/
class ToDy (K : PySem.W.Frag) {α : Type} (t : α → Pv) where
  to : α → Dy
  n : Nat
  dep : ∀ x, (encDy (to x)).depth ≤ n
  ok : ∀ x S H v, (t x).p S H v → (yDy0 K (to x)).p S H v
section
variable {K : PySem.W.Frag} {α β γ : Type} {t : α → Pv} {u : β → Pv} {w : γ → Pv}
instance : ToDy K yInt := ⟨Dy.int, 1, fun _ => by simp [encDy, PyData.depth], fun _ _ _ _ h => h⟩
instance : ToDy K yStr := ⟨Dy.str, 1, fun _ => by simp [encDy, PyData.depth], fun _ _ _ _ h => h⟩
theorem todys [D : ToDy K t] {S : Fz} {H : Hp} : ∀ {vs : List V} {xs : List α}, PsOk S H vs (xs.map t) → PsOk S H vs (yDys0 K (xs.map D.to))
  | [], [], _ => trivial
  | [], _ :: _, h => False.elim h
  | _ :: _, [], h => False.elim h
  | v :: vs, x :: xs, h => ⟨D.ok x S H v h.1, todys h.2⟩
theorem todeps [D : ToDy K t] : ∀ xs : List α, PyData.depthAll (encDys (xs.map D.to)) ≤ D.n
  | [] => by simp [encDys, PyData.depthAll]
  | x :: xs => by rw [List.map_cons, encDys, PyData.depthAll]; have := D.dep x; have := todeps xs; omega
instance [D : ToDy K t] : ToDy K (fun xs : List α => yTup K t xs) := ⟨fun xs => .tup (xs.map D.to), D.n + 1, fun xs => by rw [encDy, PyData.depth]; have := todeps (K := K) (t := t) xs; omega, fun xs S H v ⟨a, vs, e, h1, h2, h3⟩ => ⟨a, vs, e, h1, todys h2, h3⟩⟩
instance [D : ToDy K t] [D' : ToDy K u] : ToDy K (yPr K t u) := ⟨fun x => .tup [D.to x.1, D'.to x.2], max D.n D'.n + 1, fun x => by
  simp only [encDy, encDys, PyData.depth, PyData.depthAll]; have := D.dep x.1; have := D'.dep x.2; omega, fun x S H v ⟨a, vs, e, h1, h2, h3⟩ => by
  match vs, h2 with
  | [v1, v2], h2 => exact ⟨a, _, e, h1, ⟨D.ok _ _ _ _ h2.1, D'.ok _ _ _ _ h2.2.1, trivial⟩, h3⟩⟩
instance [D : ToDy K t] [D' : ToDy K u] [D2 : ToDy K w] : ToDy K (yTr K t u w) := ⟨fun x => .tup [D.to x.1, D'.to x.2.1, D2.to x.2.2], max D.n (max D'.n D2.n) + 1, fun x => by
  simp only [encDy, encDys, PyData.depth, PyData.depthAll]; have := D.dep x.1; have := D'.dep x.2.1; have := D2.dep x.2.2; omega, fun x S H v ⟨a, vs, e, h1, h2, h3⟩ => by
  match vs, h2 with
  | [v1, v2, v3], h2 => exact ⟨a, _, e, h1, ⟨D.ok _ _ _ _ h2.1, D'.ok _ _ _ _ h2.2.1, D2.ok _ _ _ _ h2.2.2.1, trivial⟩, h3⟩⟩
end
def Dy.ix (d : Dy) (i : Int) : Res Dy := match d with
  | .tup xs => pidx xs i
  | _ => .bad
def Dy.asI : Dy → Res Int
  | .int i => .ok i
  | _ => .bad
def Dy.asT : Dy → Res (List Dy)
  | .tup xs => .ok xs
  | _ => .bad
/-- by what it is -/
def Dy.sel (d : Dy) (n i s t : Bool) : Bool := match d with
  | .non => n
  | .int _ => i
  | .str _ => s
  | .tup _ => t
def pdy (xs : List Dy) : Res Dy := if (encDy (.tup xs)).depth ≤ 16 then .ok (.tup xs) else .bad
theorem yDys_of {K : PySem.W.Frag} {S : Fz} {H : Hp} : ∀ {vs : List V} {xs : List Dy}, PsOk S H vs (xs.map (yDy K)) → PsOk S H vs (yDys0 K xs)
  | [], [], _ => trivial
  | [], _ :: _, h => False.elim h
  | _ :: _, [], h => False.elim h
  | v :: vs, x :: xs, h => ⟨h.1.2, yDys_of h.2⟩
theorem yDys_to {K : PySem.W.Frag} {S : Fz} {H : Hp} : ∀ {vs : List V} {xs : List Dy}, (PyData.depthAll (encDys xs)) ≤ 16 → PsOk S H vs (yDys0 K xs) → PsOk S H vs (xs.map (yDy K))
  | [], [], _, _ => trivial
  | [], _ :: _, _, h => False.elim h
  | _ :: _, [], _, h => False.elim h
  | v :: vs, x :: xs, hd, h => by
    rw [encDys, PyData.depthAll] at hd
    exact ⟨⟨by omega, h.1⟩, yDys_to (by omega) h.2⟩
theorem yDy_tup {K : PySem.W.Frag} {S : Fz} {H : Hp} {v : V} {xs : List Dy} (h : (yDy K (.tup xs)).p S H v) : (yTup K (yDy K) xs).p S H v := by
  obtain ⟨hd, a, vs, e, h1, h2, h3⟩ := h
  refine ⟨a, vs, e, h1, yDys_to ?_ h2, h3⟩
  rw [encDy, PyData.depth] at hd; omega
section
variable {ρ : Type} {A : Nat → Addr} {E : L2.St → XK} {K : PySem.W.Frag} {Γ : Ctx} {c : Res ρ} {κ : Ctx → Vo → Res ρ → Prop} {α β : Type} {t : α → Pv} {te td : TE} {tr : TA} {i : Nat} {Δ : Dl ρ}
theorem wx_toDy (t : α → Pv) [D : ToDy K t] (hn : D.n ≤ 16) (h : WX A E Γ te c fun Γ' V c' => ∃ x, V = .val (t x) ∧ κ Γ' (.val (yDy K (D.to x))) c') : WX A E Γ te c κ := fun F T S σ H Q O R hc k =>
  h F T S σ H Q O R hc fun Γ' V c' ⟨x, e, h1⟩ S' H' v R' l hv hc' => by
    subst e
    exact k _ _ _ h1 S' H' v R' l ⟨Nat.le_trans (D.dep x) hn, D.ok _ _ _ _ hv⟩ hc'
def Dy.atom : Dy → Bool
  | .tup _ => false
  | _ => true
theorem atoms_dep : ∀ {xs : List Dy}, xs.all Dy.atom = true → PyData.depthAll (encDys xs) ≤ 1
  | [], _ => by simp [encDys, PyData.depthAll]
  | x :: xs, h => by
    rw [List.all_cons, Bool.and_eq_true] at h
    rw [encDys, PyData.depthAll]
    have := atoms_dep h.2
    cases x with
    | tup _ => exact absurd h.1 (by simp [Dy.atom])
    | _ => simp only [encDy, PyData.depth]; omega
theorem wx_tupA (h : WX A E Γ te c fun Γ' V c' => ∃ xs : List Dy, V = .val (yTup K (yDy K) xs) ∧ xs.all Dy.atom = true ∧ κ Γ' (.val (yDy K (.tup xs))) c') : WX A E Γ te c κ := fun F T S σ H Q O R hc k =>
  h F T S σ H Q O R hc fun Γ' V c' ⟨xs, e, z, h1⟩ S' H' v R' l hv hc' => by
    subst e
    obtain ⟨a, vs, e, h2, h3, h4⟩ := hv
    exact k _ _ _ h1 S' H' v R' l ⟨by rw [encDy, PyData.depth]; have := atoms_dep z; omega, a, vs, e, h2, yDys_of h3, h4⟩ hc'
theorem wx_asT (h : WX A E Γ te c fun Γ' V c' => ∃ d k, V = .val (yDy K d) ∧ c' = (Dy.asT d).bind k ∧ ∀ xs, κ Γ' (.val (yTup K (yDy K) xs)) (k xs)) : WX A E Γ te c κ := fun F T S σ H Q O R hc k =>
  h F T S σ H Q O R hc fun Γ' V c' ⟨d, kk, e, ec, h1⟩ S' H' v R' l hv hc' => by
    subst e; subst ec
    cases d with
    | tup xs => exact k _ _ _ (h1 xs) S' H' v R' l (yDy_tup hv) hc'
    | _ => exact absurd hc' O.nb
theorem rx_ixDy {d : Dy} {i : Int} {k : Dy → Res ρ} (e : c = (d.ix i).bind k) (h : ∀ x, κ Γ (.val (yDy K x)) (k x)) : RX A E (rIxT K) (yDy K d) (yInt i) Γ c κ := fun F T S σ H v w Q O R hc h1 h2 kk => by
  subst e
  cases d with
  | tup xs => exact rx_ixTp (A := A) (E := E) (K := K) (t := yDy K) (xs := xs) (k := k) rfl h F T S σ H v w Q O R hc (yDy_tup h1) h2 kk
  | _ => exact absurd hc O.nb
theorem rc_isiDy {T2 : String} {d : Dy} {bn bi bs bt : Bool} (en : PySem.W.kitOne K (.type "NoneType") (.type T2) = some bn) (ei : PySem.W.kitOne K (.type "int") (.type T2) = some bi) (es : PySem.W.kitOne K (.type "str") (.type T2) = some bs) (et : PySem.W.kitOne K (.type "tuple") (.type T2) = some bt)
    [I1 : HasTy K (fun _ : Unit => yNon) "NoneType"] [I2 : HasTy K yInt "int"] [I3 : HasTy K yStr "str"] [I4 : HasTy K (fun xs : List Dy => yTup K (yDy K) xs) "tuple"]
    (h : κ Γ (.val (yBl (d.sel bn bi bs bt))) c) : RC A E (fun _ => rIsi K) [.val (yDy K d), .val (yCls T2)] Γ c κ := fun F T S σ H vs Q' O R hc hg kk => by
  obtain ⟨v, w, rfl, hv, hw⟩ := ag2 hg
  cases hw
  cases d with
  | non => exact ⟨v, _, _, _, bn, rfl, .ty T2, I1.ty () S H v hv.2, en, kk _ _ _ h S H _ R Le.refl rfl hc⟩
  | int x => exact ⟨v, _, _, _, bi, rfl, .ty T2, I2.ty x S H v hv.2, ei, kk _ _ _ h S H _ R Le.refl rfl hc⟩
  | str x => exact ⟨v, _, _, _, bs, rfl, .ty T2, I3.ty x S H v hv.2, es, kk _ _ _ h S H _ R Le.refl rfl hc⟩
  | tup xs => exact ⟨v, _, _, _, bt, rfl, .ty T2, I4.ty xs S H v (yDy_tup hv), et, kk _ _ _ h S H _ R Le.refl rfl hc⟩
/-! ### match -/
end
end Mi
namespace Sl
open PySem PySem.Spec PyProof.Rows L2
/-! ### t[::-1] -/
end Sl
namespace Mi
open PySem PySem.Spec PyProof.Rows L2
section
variable {ρ : Type} {A : Nat → Addr} {E : L2.St → XK} {K : PySem.W.Frag} {Γ : Ctx} {c : Res ρ} {κ : Ctx → Vo → Res ρ → Prop} {α β : Type} {t : α → Pv} {te td : TE}
theorem wx_revL (t : α → Pv) (h : WX A E Γ te c fun Γ1 V c1 => ∃ xs, V = .val (yLst K t xs) ∧ κ Γ1 (.own (wLst K t xs.reverse)) c1) : WX A E Γ (tRevL K te) c κ := fun F T S σ H Q O R hc k => by
  refine h F T S σ H _ O R hc fun Γ1 V c1 ⟨xs, e, h1⟩ S1 H1 x R1 l1 p1 hc1 => ?_
  subst e
  obtain ⟨a, vs, rfl, hs, hv, hl⟩ := p1
  refine ⟨a, vs, rfl, hs.1, fun p hp => k _ _ _ h1 S1 _ _ (R1.new hp) (l1.trans (le_new hp)) (isOwn R1 hp ⟨_, rfl, ?_, by rw [List.length_reverse]; exact hl⟩) hc1⟩
  rw [List.map_reverse]
  exact hv.reverse.up (le_new hp)
end
end Mi
namespace Mi
open PySem PySem.Spec PyProof.Rows L2
end Mi
namespace Sl
open PySem PySem.Spec PyProof.Rows L2 Mi
def Src2 (l : List Int) : Prop := ∃ n c, l = [n, c]
theorem rng_len {a : Int} {n : Nat} : (rng a n).length = n := by simp [rng]
theorem pcut_sub {α : Type} {xs : List α} {a b : Option Int} : (pcut xs a b).Sublist xs := (List.take_sublist ..).trans (List.drop_sublist ..)
theorem nodup_le {α : Type} [DecidableEq α] : ∀ {l m : List α}, l.Nodup → (∀ x ∈ l, x ∈ m) → l.length ≤ m.length
  | [], _, _, _ => Nat.zero_le _
  | x :: l, m, h, k => by
    have hx : x ∈ m := k x (List.mem_cons_self ..)
    have h' := List.nodup_cons.mp h
    have := nodup_le (m := m.erase x) h'.2 fun y hy => (List.mem_erase_of_ne fun (e : y = x) => h'.1 (e ▸ hy)).mpr (k y (List.mem_cons_of_mem _ hy))
    rw [List.length_erase_of_mem hx] at this
    have := List.length_pos_of_mem hx
    simp only [List.length_cons]; omega
theorem dput_new {α : Type} {d : List (Str × α)} {k : Str} {x : α} (h : k ∉ dkeys d) : dput d k x = d ++ [(k, x)] := by
  unfold dput
  rw [if_neg]
  intro z
  obtain ⟨kv, h1, h2⟩ := List.any_eq_true.mp z
  exact h (List.mem_map.mpr ⟨kv, h1, of_decide_eq_true h2⟩)
theorem dlook_of_mem {α : Type} {d : List (Str × α)} {kv : Str × α} (nd : (dkeys d).Nodup) (h : kv ∈ d) : dlook d kv.1 = some kv.2 := by
  induction d with
  | nil => simp at h
  | cons p d ih =>
    rw [dlook_cons]
    have nd' := List.nodup_cons.mp nd
    rcases List.mem_cons.mp h with h | h
    · rw [if_pos (by rw [h]), h]
    · rw [if_neg fun e => nd'.1 (by show p.1 ∈ List.map _ d; rw [e]; exact List.mem_map.mpr ⟨kv, h, rfl⟩)]
      exact ih nd'.2 h
theorem rng_at {n : Nat} {pre post : List Int} {x : Int} (e : rng 0 n = pre ++ x :: post) : x = (pre.length : Int) ∧ pre.length < n := by
  have h : (rng 0 n)[pre.length]? = some x := by rw [e]; simp
  have hl : pre.length < n := by
    have := congrArg List.length e
    rw [rng_len] at this
    simp at this; omega
  refine ⟨?_, hl⟩
  unfold rng at h
  rw [List.getElem?_map, List.getElem?_range hl] at h
  simp at h
  exact h.symm
abbrev Lit := Str × Int
abbrev Cla := List (Str × Int)
def CV (ns : List Str) (c : Cla) : Prop := c.Pairwise (fun a b => slt a.1 b.1) ∧ ∀ l ∈ c, l.1 ∈ ns ∧ (l.2 = 0 ∨ l.2 = 1)
theorem pall {α : Type} {f : Unit → α → Res (Fl Unit Bool)} (p : α → Bool) : ∀ {xs : List α}, (∀ x ∈ xs, f () x = .ok (if p x then .nx () else .rt false)) → (pfor f () xs).thn (fun _ => .ok true) (fun ρ => .ok ρ) = .ok (xs.all p)
  | [], _ => rfl
  | x :: xs, h => by
    rw [pfor, h x (List.mem_cons_self ..), bind_ok, List.all_cons]
    cases p x
    · rfl
    · exact pall p fun y hy => h y (List.mem_cons_of_mem _ hy)
theorem pany {α : Type} {f : Unit → α → Res (Fl Unit Bool)} (p : α → Bool) : ∀ {xs : List α}, (∀ x ∈ xs, f () x = .ok (if p x then .rt true else .nx ())) → (pfor f () xs).thn (fun _ => .ok false) (fun ρ => .ok ρ) = .ok (xs.any p)
  | [], _ => rfl
  | x :: xs, h => by
    rw [pfor, h x (List.mem_cons_self ..), bind_ok, List.any_cons]
    cases p x
    · exact pany p fun y hy => h y (List.mem_cons_of_mem _ hy)
    · rfl
abbrev Dict := List (Str × Int)
def vl (d : Dict) (n : Str) : Int := (dlook d n).getD 0
def hv (d : Dict) (c : Cla) : Bool := c.any fun l => decide (vl d l.1 = l.2)
theorem pdget_vl {d : Dict} {n : Str} (h : n ∈ dkeys d) : pdget d n = .ok (vl d n) := by
  obtain ⟨x, hx⟩ := dlook_mem h
  unfold vl
  rw [pdget_ok hx, hx]; rfl
def Kn (d : Dict) (cs : List Cla) : Prop := ∀ c ∈ cs, ∀ l ∈ c, l.1 ∈ dkeys d
theorem pin_iff {α : Type} [DecidableEq α] {x : α} {ys : List α} : pin x ys = true ↔ x ∈ ys := by unfold pin; exact decide_eq_true_iff
theorem dcopy_ok {d : Dict} (nd : (dkeys d).Nodup) : dcopy d = d := by
  unfold dcopy
  suffices ∀ e f, d = e ++ f → f.foldl (fun a kv => dput a kv.1 kv.2) e = d from this [] d rfl
  intro e f
  induction f generalizing e with
  | nil => intro h; rw [List.append_nil] at h; rw [h]; rfl
  | cons kv f ih =>
    intro h
    have hk : kv.1 ∉ dkeys e := fun z => by
      rw [h] at nd
      unfold dkeys at nd z
      rw [List.map_append, List.map_cons] at nd
      exact (List.nodup_append.mp nd).2.2 kv.1 z kv.1 (List.mem_cons_self ..) rfl
    rw [List.foldl_cons, dput_new hk]
    exact ih (e ++ [(kv.1, kv.2)]) (by rw [h]; simp)
def Asg (ns : List Str) (d : Dict) : Prop := dkeys d = ns ∧ ∀ kv ∈ d, kv.2 = 0 ∨ kv.2 = 1
def Clash (name : Str) (c : Cla) : Prop := ∃ l ∈ c, ∃ m ∈ c, l.1 = m.1 ∧ l.1 ≠ name ∧ l.2 ≠ m.2
theorem leSI_trans (a b c : Lit) (h1 : leSI a b = true) (h2 : leSI b c = true) : leSI a c = true := by
  unfold leSI at *
  by_cases e1 : b.1 = a.1
  · by_cases e2 : c.1 = b.1
    · rw [if_pos e1] at h1; rw [if_pos e2] at h2; rw [if_pos (e2.trans e1)]
      simp at *; omega
    · rw [if_neg e2] at h2; rw [if_neg fun z => e2 (z.trans e1.symm), ← e1]; exact h2
  · by_cases e2 : c.1 = b.1
    · rw [if_neg e1] at h1; rw [if_neg fun z => e1 (e2.symm.trans z), e2]; exact h1
    · rw [if_neg e1] at h1; rw [if_neg e2] at h2
      simp only [Bool.not_eq_true', decide_eq_false_iff_not] at h1 h2
      have q1 : slt a.1 b.1 := (slt_tri a.1 b.1).resolve_right fun z => z.elim (fun z => e1 z.symm) h1
      have q2 : slt b.1 c.1 := (slt_tri b.1 c.1).resolve_right fun z => z.elim (fun z => e2 z.symm) h2
      have q := slt_trans q1 q2
      rw [if_neg fun z => by rw [z] at q; exact slt_irrefl _ q]
      simpa using slt_asymm q
theorem leSI_total (a b : Lit) : (leSI a b || leSI b a) = true := by
  unfold leSI
  by_cases e : b.1 = a.1
  · rw [if_pos e, if_pos e.symm]; simp; omega
  · rw [if_neg e, if_neg fun z => e z.symm]
    rcases slt_tri a.1 b.1 with q | q | q
    · simp [slt_asymm q]
    · exact absurd q.symm e
    · simp [slt_asymm q]
theorem sortSI_pw {d : Dict} (nd : (dkeys d).Nodup) : (d.mergeSort leSI).Pairwise fun a b => slt a.1 b.1 := by
  have h := List.pairwise_mergeSort (le := leSI) leSI_trans leSI_total d
  have pm : (d.mergeSort leSI).Perm d := List.mergeSort_perm ..
  have nd2 : ((d.mergeSort leSI).map (·.1)).Nodup := (pm.map (fun kv : Lit => kv.1)).nodup_iff.mpr nd
  have nd3 : (d.mergeSort leSI).Pairwise fun a b => a.1 ≠ b.1 := List.pairwise_map.mp nd2
  refine List.Pairwise.imp₂ (fun a b h1 h2 => ?_) h nd3
  unfold leSI at h1
  rw [if_neg fun z => h2 z.symm] at h1
  simp only [Bool.not_eq_true', decide_eq_false_iff_not] at h1
  exact (slt_tri a.1 b.1).resolve_right fun z => z.elim h2 h1
theorem dkeys_mem {d : Dict} {n : Str} {v : Int} (nd : (dkeys d).Nodup) : (n, v) ∈ d ↔ dlook d n = some v := by
  constructor
  · intro h; exact dlook_of_mem nd h
  · intro h
    clear nd
    induction d with
    | nil => simp [dlook] at h
    | cons p d ih =>
      rw [dlook_cons] at h
      by_cases e : p.1 = n
      · rw [if_pos e] at h; cases h; rw [← e]; exact List.mem_cons_self ..
      · rw [if_neg e] at h; exact List.mem_cons_of_mem _ (ih h)
structure Sg (name : Str) (pre : Cla) (s : Dict) : Prop where
  nd : (dkeys s).Nodup
  le : s.length ≤ pre.length
  fro : ∀ n v, dlook s n = some v → n ≠ name ∧ (n, v) ∈ pre
  all : ∀ l ∈ pre, l.1 ≠ name → dlook s l.1 = some l.2
def Res1 (a b : Cla) (name : Str) (o : Option Cla) : Prop := match o with
  | none => Clash name (a ++ b)
  | some r => r.Pairwise (fun x y => slt x.1 y.1) ∧ ∀ l, l ∈ r ↔ l.1 ≠ name ∧ l ∈ a ++ b
theorem uniq {c : Cla} : c.Pairwise (fun a b => slt a.1 b.1) → ∀ {l m : Lit}, l ∈ c → m ∈ c → l.1 = m.1 → l = m := by
  intro h
  induction c with
  | nil => intro l m hl; simp at hl
  | cons a r ih =>
    intro l m hl hm e
    obtain ⟨h1, h2⟩ := List.pairwise_cons.mp h
    rcases List.mem_cons.mp hl with hl | hl
    · rcases List.mem_cons.mp hm with hm | hm
      · rw [hl, hm]
      · have := h1 m hm
        rw [← hl, e] at this
        exact absurd this (slt_irrefl _)
    · rcases List.mem_cons.mp hm with hm | hm
      · have := h1 l hl
        rw [← hm, e] at this
        exact absurd this (slt_irrefl _)
      · exact ih h2 hl hm e
theorem hv_iff {d : Dict} {c : Cla} : hv d c = true ↔ ∃ l ∈ c, vl d l.1 = l.2 := by
  unfold hv
  rw [List.any_eq_true]
  exact ⟨fun ⟨l, h1, h2⟩ => ⟨l, h1, of_decide_eq_true h2⟩, fun ⟨l, h1, h2⟩ => ⟨l, h1, decide_eq_true h2⟩⟩
theorem dlook_app {d : Dict} {n m : Str} {v : Int} (hn : n ∉ dkeys d) : dlook (d ++ [(n, v)]) m = if m = n then some v else dlook d m := by
  rw [← dput_new hn, dlook_put]
theorem vl_app {d : Dict} {n m : Str} {v : Int} (hn : n ∉ dkeys d) : vl (d ++ [(n, v)]) m = if m = n then v else vl d m := by
  unfold vl
  rw [dlook_app hn]
  by_cases e : m = n
  · rw [if_pos e, if_pos e]; rfl
  · rw [if_neg e, if_neg e]
theorem kn_of {ns : List Str} {cs : List Cla} {d : Dict} (h : ∀ c ∈ cs, CV ns c) (hd : ∀ n ∈ ns, n ∈ dkeys d) : Kn d cs := fun c hc l hl => hd _ ((h c hc).2 l hl).1
theorem cv_len {ns : List Str} {c : Cla} (h : CV ns c) (hl : ns.length ≤ 5) : c.length ≤ 5 := by
  have nd : (c.map (·.1)).Nodup := List.pairwise_map.mpr (h.1.imp fun q e => by rw [e] at q; exact slt_irrefl _ q)
  have := nodup_le (m := ns) nd fun x hx => by
    obtain ⟨l, hl, rfl⟩ := List.mem_map.mp hx
    exact (h.2 l hl).1
  rw [List.length_map] at this
  omega
end Sl
namespace Sl
open PySem PySem.Spec PyProof.Rows L2 Mi
/-! strict total orders, sorting by them -/
structure STot {α : Type} (lt : α → α → Bool) : Prop where
  irr : ∀ a, lt a a = false
  tr : ∀ a b c, lt a b = true → lt b c = true → lt a c = true
  tri : ∀ a b, lt a b = true ∨ a = b ∨ lt b a = true
theorem STot.asym {α : Type} {lt : α → α → Bool} (S : STot lt) {a b : α} (h : lt a b = true) : lt b a = false := by
  cases q : lt b a with
  | false => rfl
  | true => have := S.tr _ _ _ h q; rw [S.irr] at this; cases this
theorem stot_ltI : STot ltI := ⟨fun a => by simp [ltI], fun a b c h1 h2 => by simp [ltI] at *; omega, fun a b => by simp [ltI]; omega⟩
theorem stot_ltT : STot ltT := ⟨fun a => by simp [ltT, slt_irrefl], fun a b c h1 h2 => by simp [ltT] at *; exact slt_trans h1 h2, fun a b => by simp [ltT]; exact slt_tri a b⟩
theorem stot_ltP {α β : Type} [DecidableEq α] [DecidableEq β] {l1 : α → α → Bool} {l2 : β → β → Bool} (S : STot l1) (T : STot l2) : STot (ltP l1 l2) := by
  refine ⟨fun a => by simp [Mi.ltP], fun a b c h1 h2 => ?_, fun a b => ?_⟩
  · unfold Mi.ltP at *
    by_cases e1 : a.1 = b.1
    · rw [if_pos e1] at h1
      by_cases e2 : b.1 = c.1
      · rw [if_pos e2] at h2; rw [if_pos (e1.trans e2)]
        by_cases f1 : a.2 = b.2
        · rw [if_pos f1] at h1; cases h1
        · by_cases f2 : b.2 = c.2
          · rw [if_pos f2] at h2; cases h2
          · rw [if_neg f1] at h1; rw [if_neg f2] at h2
            have := T.tr _ _ _ h1 h2
            rw [if_neg fun z => by rw [z, T.irr] at this; cases this]; exact this
      · rw [if_neg e2] at h2; rw [if_neg fun z => e2 (e1.symm.trans z), e1]; exact h2
    · rw [if_neg e1] at h1
      by_cases e2 : b.1 = c.1
      · rw [if_neg fun z => e1 (z.trans e2.symm), ← e2]; exact h1
      · rw [if_neg e2] at h2
        have := S.tr _ _ _ h1 h2
        rw [if_neg fun z => by rw [z, S.irr] at this; cases this]; exact this
  · unfold Mi.ltP
    by_cases e1 : a.1 = b.1
    · rw [if_pos e1, if_pos e1.symm]
      by_cases f1 : a.2 = b.2
      · exact .inr (.inl (Prod.ext e1 f1))
      · rw [if_neg f1, if_neg fun z => f1 z.symm]
        exact (T.tri a.2 b.2).imp id fun h => h.elim (fun z => absurd z f1) .inr
    · rw [if_neg e1, if_neg fun z => e1 z.symm]
      exact (S.tri a.1 b.1).imp id fun h => h.elim (fun z => absurd z e1) .inr
theorem stot_ltL {α : Type} [DecidableEq α] {lt : α → α → Bool} (S : STot lt) : STot (ltL lt) := by
  have tr : ∀ a b c, ltL lt a b = true → ltL lt b c = true → ltL lt a c = true := by
    intro a
    induction a with
    | nil =>
      intro b c h1 h2
      cases b with
      | nil => simp [ltL] at h1
      | cons y b => cases c with
        | nil => simp [ltL] at h2
        | cons z c => simp [ltL]
    | cons x a ih =>
      intro b c h1 h2
      cases b with
      | nil => simp [ltL] at h1
      | cons y b => cases c with
        | nil => simp [ltL] at h2
        | cons z c =>
          unfold ltL at h1 h2 ⊢
          by_cases e1 : x = y
          · subst e1
            rw [if_pos rfl] at h1
            by_cases e2 : x = z
            · subst e2; rw [if_pos rfl] at h2 ⊢; exact ih _ _ h1 h2
            · rw [if_neg e2] at h2 ⊢; exact h2
          · rw [if_neg e1] at h1
            by_cases e2 : y = z
            · subst e2; rw [if_neg e1]; exact h1
            · rw [if_neg e2] at h2
              have := S.tr _ _ _ h1 h2
              rw [if_neg fun z => by rw [z, S.irr] at this; cases this]; exact this
  refine ⟨fun a => ?_, tr, fun a b => ?_⟩
  · induction a with
    | nil => rfl
    | cons x a ih => unfold ltL; rw [if_pos rfl]; exact ih
  · induction a generalizing b with
    | nil => cases b with
      | nil => exact .inr (.inl rfl)
      | cons y b => exact .inl rfl
    | cons x a ih => cases b with
      | nil => exact .inr (.inr rfl)
      | cons y b =>
        unfold ltL
        by_cases e : x = y
        · subst e
          rw [if_pos rfl, if_pos rfl]
          exact (ih b).imp id fun h => h.imp (fun z => by rw [z]) id
        · rw [if_neg e, if_neg fun z => e z.symm]
          exact (S.tri x y).imp id fun h => h.elim (fun z => absurd z e) .inr
section
variable {α : Type} {lt : α → α → Bool} {xs ys : List α}
theorem sortB_perm : (sortB lt xs).Perm xs := List.mergeSort_perm ..
theorem mem_sortB {x : α} : x ∈ sortB lt xs ↔ x ∈ xs := sortB_perm.mem_iff
theorem sortB_pw (S : STot lt) : (sortB lt xs).Pairwise fun a b => lt b a = false := by
  have := List.pairwise_mergeSort (le := fun a b => !lt b a) (fun a b c h1 h2 => ?_) (fun a b => ?_) xs
  · exact this.imp fun h => by simpa using h
  · simp only [Bool.not_eq_true'] at h1 h2 ⊢
    cases q : lt c a with
    | false => rfl
    | true =>
      rcases S.tri a b with h | h | h
      · have := S.tr _ _ _ q h; rw [this] at h2; cases h2
      · subst h; rw [q] at h2; cases h2
      · rw [h] at h1; cases h1
  · cases q : lt b a
    · rfl
    · rw [S.asym q]; rfl
theorem sortB_asc (S : STot lt) (h : xs.Nodup) : (sortB lt xs).Pairwise fun a b => lt a b = true :=
  List.Pairwise.imp₂ (fun a b h1 h2 => (S.tri a b).resolve_right fun z => z.elim h2 fun z => by rw [z] at h1; cases h1) (sortB_pw S) (sortB_perm.nodup_iff.mpr h)
/-- ascending lists of the same items are one -/
theorem asc_ext (S : STot lt) : ∀ {xs ys : List α}, xs.Pairwise (fun a b => lt a b = true) → ys.Pairwise (fun a b => lt a b = true) → (∀ x, x ∈ xs ↔ x ∈ ys) → xs = ys
  | [], [], _, _, _ => rfl
  | [], y :: ys, _, _, h => nomatch (h y).mpr (List.mem_cons_self ..)
  | x :: xs, [], _, _, h => nomatch (h x).mp (List.mem_cons_self ..)
  | x :: xs, y :: ys, h1, h2, h => by
    have a1 := List.pairwise_cons.mp h1
    have a2 := List.pairwise_cons.mp h2
    have e : x = y := by
      rcases List.mem_cons.mp ((h x).mp (List.mem_cons_self ..)) with e | m1
      · exact e
      · rcases List.mem_cons.mp ((h y).mpr (List.mem_cons_self ..)) with e | m2
        · exact e.symm
        · have q1 := a1.1 y m2
          have q2 := a2.1 x m1
          rw [S.asym q1] at q2; cases q2
    subst e
    have ni : ∀ {l : List α}, (∀ z ∈ l, lt x z = true) → x ∉ l := fun hl z => by have := hl x z; rw [S.irr] at this; cases this
    rw [asc_ext S a1.2 a2.2 fun z => ⟨fun hz => ((List.mem_cons.mp ((h z).mp (List.mem_cons_of_mem _ hz))).resolve_left fun e => ni a1.1 (e ▸ hz)), fun hz => ((List.mem_cons.mp ((h z).mpr (List.mem_cons_of_mem _ hz))).resolve_left fun e => ni a2.1 (e ▸ hz))⟩]
theorem asc_nodup (S : STot lt) (h : xs.Pairwise fun a b => lt a b = true) : xs.Nodup := h.imp fun q e => by rw [e, S.irr] at q; cases q
end
theorem psortB_ok {α : Type} {lt : α → α → Bool} {gd : α → Bool} {xs : List α} : psortB lt gd xs = .ok (sortB lt xs) := rfl
abbrev ltLit : Lit → Lit → Bool := ltP ltT ltI
abbrev ltCla : Cla → Cla → Bool := ltL (ltP ltT ltI)
theorem stot_lit : STot ltLit := stot_ltP stot_ltT stot_ltI
theorem stot_cla : STot ltCla := stot_ltL stot_lit
/-- by the name alone -/
theorem lit_of_slt {a b : Lit} (h : slt a.1 b.1) : ltLit a b = true := by
  unfold ltLit Mi.ltP
  rw [if_neg fun z => by rw [z] at h; exact slt_irrefl _ h]
  simpa [ltT] using h
theorem lits_of_slt {c : Cla} (h : c.Pairwise fun a b => slt a.1 b.1) : c.Pairwise fun a b => ltLit a b = true := h.imp lit_of_slt
/-- clauses of ascending names with the same literals are one -/
theorem cla_ext {a b : Cla} (h1 : a.Pairwise fun x y => slt x.1 y.1) (h2 : b.Pairwise fun x y => slt x.1 y.1) (h : ∀ l, l ∈ a ↔ l ∈ b) : a = b := asc_ext stot_lit (lits_of_slt h1) (lits_of_slt h2) h
theorem cla_nodup {a : Cla} (h : a.Pairwise fun x y => slt x.1 y.1) : a.Nodup := asc_nodup stot_lit (lits_of_slt h)
/-! the least clauses -/
def Minl (cs : List Cla) (c : Cla) : Prop := c ∈ cs ∧ ∀ d ∈ cs, (∀ l ∈ d, l ∈ c) → d = c
theorem sub_len {a b : Cla} (ha : a.Nodup) (h : ∀ l ∈ a, l ∈ b) (hb : b.Nodup) (hl : b.length ≤ a.length) : ∀ l ∈ b, l ∈ a := by
  intro l hl'
  refine Classical.byContradiction fun z => ?_
  have := nodup_le (l := l :: a) (m := b) (List.nodup_cons.mpr ⟨z, ha⟩) fun x hx => (List.mem_cons.mp hx).elim (fun e => e ▸ hl') (h x)
  simp at this; omega
end Sl
namespace Sl
open PySem PySem.Spec PyProof.Rows L2
/-! ### dicts keyed by tuples of any depth -/
abbrev EnL (L : Type) := List (L × Addr × V)
def lookN {L : Type} [DecidableEq L] (xs : EnL L) (k : L) : Option V := (xs.find? fun e => decide (e.1 = k)).map (·.2.2)
def putN {L : Type} [DecidableEq L] (xs : EnL L) (k : L) (b : Addr) (v : V) : EnL L := if (lookN xs k).isSome = true then xs.map fun e => if e.1 = k then (e.1, e.2.1, v) else e else xs ++ [(k, b, v)]
end Sl
namespace Mi
open PySem PySem.Spec PyProof.Rows L2
open Sl (isTup sz szl slt EnL)
/-! ### dicts keyed by tuples of any depth -/
abbrev NK := PySem.NestedKey
/-- what may be (a part of) a key; n: how deep -/
class NE (K : PySem.W.Frag) {κ : Type} (t : κ → Pv) (n : outParam Nat) where
  enc : κ → NK
  inj : ∀ a b, enc a = enc b → a = b
  dep : ∀ a, (enc a).depth ≤ n
  tup : ∀ a, 0 < n → ∃ ks, enc a = .tup ks
  ok : ∀ (X : Cx), X.K = K → ∀ (pins : List (Addr × Obj)) (σ : L2.St) (H : Hp) (s : Shared), L2.Inv X pins σ H s → ∀ (S : Fz) (x : κ) (v : V) (u : Value), (t x).p S H v → RelV v u → PySem.NestedIs s.heap (enc x) u
variable {K : PySem.W.Frag}
instance : NE K yStr 0 := ⟨.text, fun _ _ e => PySem.NestedKey.text.inj e, fun _ => by simp [PySem.NestedKey.depth], fun _ z => absurd z (Nat.lt_irrefl 0), fun _ _ _ _ _ _ _ _ x _ _ hv hr => by
  cases (show _ = V.str x from hv)
  obtain ⟨k, rfl⟩ := hr
  exact .text x k⟩
instance : NE K yInt 0 := ⟨.num, fun _ _ e => PySem.NestedKey.num.inj e, fun _ => by simp [PySem.NestedKey.depth], fun _ z => absurd z (Nat.lt_irrefl 0), fun _ _ _ _ _ _ _ _ x _ _ hv hr => by
  cases (show _ = V.int x from hv)
  obtain ⟨k, rfl⟩ := hr
  exact .int x k⟩
section
variable {κ κ' : Type} {t : κ → Pv} {u : κ' → Pv} {n : Nat}
/-- a tuple whose items are keys is one -/
theorem tup_key {X : Cx} (eK : X.K = K) {pins : List (Addr × Obj)} {σ : L2.St} {H : Hp} {s : Shared} (I : L2.Inv X pins σ H s) {a : Addr} {vs : List V} (h : SqT K H a vs) {ks : List NK} (g : ∀ us, Vals vs us → PySem.NestedAll s.heap ks us) {z : Value} (r : RelV (.ref a) z) : PySem.NestedIs s.heap (.tup ks) z := by
  subst eK
  obtain ⟨us, hus, ⟨o, go, co, m, dat⟩, _⟩ := I.tuple h
  cases (show z = Value.ref a from r)
  exact .tup go co dat (g us hus)
theorem items_key [N : NE K t n] {X : Cx} (eK : X.K = K) {pins : List (Addr × Obj)} {σ : L2.St} {H : Hp} {s : Shared} (I : L2.Inv X pins σ H s) {S : Fz} (xs : List κ) : ∀ vs us, PsOk S H vs (xs.map t) → Vals vs us → PySem.NestedAll s.heap (xs.map N.enc) us := by
  induction xs with
  | nil => intro vs us hp hv; cases vs <;> cases hv <;> first | exact .nil | exact hp.elim
  | cons x xs ih => intro vs us hp hv; cases hv <;> first | exact hp.elim | exact .cons (N.ok X eK pins σ H s I S x _ _ hp.1 (by assumption)) (ih _ _ hp.2 (by assumption))
theorem dep_all {f : κ → NK} (h : ∀ x, (f x).depth ≤ n) : ∀ xs : List κ, PySem.NestedKey.depthAll (xs.map f) ≤ n
  | [] => by simp [PySem.NestedKey.depthAll]
  | x :: xs => by simp only [List.map_cons, PySem.NestedKey.depthAll]; exact Nat.max_le.mpr ⟨h x, dep_all h xs⟩
theorem enc_list {f : κ → NK} (h : ∀ a b, f a = f b → a = b) : ∀ xs ys : List κ, xs.map f = ys.map f → xs = ys := fun _ _ e => (List.map_inj_right h).mp e
theorem dep2 {a b : NK} (ha : a.depth ≤ n) (hb : b.depth ≤ n) : (PySem.NestedKey.tup [a, b]).depth ≤ n + 1 := by
  rw [PySem.NestedKey.depth, PySem.NestedKey.depthAll, PySem.NestedKey.depthAll, PySem.NestedKey.depthAll]
  omega
theorem pair_key [N : NE K t n] [M : NE K u n] {X : Cx} (eK : X.K = K) {pins : List (Addr × Obj)} {σ : L2.St} {H : Hp} {s : Shared} (I : L2.Inv X pins σ H s) {S : Fz} {x : κ × κ'} {v : V} {z : Value} (hv : (yPr K t u x).p S H v) (r : RelV v z) : PySem.NestedIs s.heap (.tup [N.enc x.1, M.enc x.2]) z := by
  obtain ⟨a, vs, rfl, hq, hp, _⟩ := hv
  refine tup_key eK I hq (fun us hu => ?_) r
  cases hu with
  | nil => exact hp.elim
  | cons r1 h1 => cases h1 with
    | nil => exact hp.2.elim
    | cons r2 h2 => cases h2 with
      | nil => exact .cons (N.ok X eK pins σ H s I S _ _ _ hp.1 r1) (.cons (M.ok X eK pins σ H s I S _ _ _ hp.2.1 r2) .nil)
      | cons _ _ => exact hp.2.2.elim
theorem enc2 [N : NE K t n] [M : NE K u n] {a b : κ × κ'} (e : PySem.NestedKey.tup [N.enc a.1, M.enc a.2] = .tup [N.enc b.1, M.enc b.2]) : a = b := by
  have e := PySem.NestedKey.tup.inj e
  exact Prod.ext (N.inj _ _ (List.cons.inj e).1) (M.inj _ _ (List.cons.inj (List.cons.inj e).2).1)
instance nePr [N : NE K t n] [M : NE K u n] : NE K (yPr K t u) (n + 1) where
  enc x := .tup [N.enc x.1, M.enc x.2]
  inj _ _ e := enc2 e
  dep x := dep2 (N.dep x.1) (M.dep x.2)
  tup _ _ := ⟨_, rfl⟩
  ok _ eK _ _ _ _ I _ _ _ _ hv r := pair_key eK I hv r
instance neTup [N : NE K t n] : NE K (yTup K t) (n + 1) := ⟨fun xs => .tup (xs.map N.enc), fun a b e => enc_list N.inj _ _ (PySem.NestedKey.tup.inj e), fun xs => Nat.succ_le_succ (dep_all N.dep xs), fun _ _ => ⟨_, rfl⟩, fun X eK pins σ H s I S xs v z hv r => by
  obtain ⟨a, vs, rfl, hq, hp, _⟩ := hv
  exact tup_key eK I hq (items_key eK I xs vs · hp ·) r⟩
/-- what the rules ask of keys -/
def KyOf (K : PySem.W.Frag) (t : κ → Pv) [N : NE K t (n + 1)] : Hp → NK → V → Prop := fun H l v => ∃ S k, N.enc k = l ∧ (t k).p S H v
end
section
variable {κ α : Type} {n : Nat}
def NdOk (K : PySem.W.Frag) (S : Fz) (H : Hp) (t : κ → Pv) [N : NE K t (n + 1)] (u : α → Pv) : EnL NK → List (κ × α) → Prop
  | [], [] => True
  | e :: es, p :: ps => (e.1 = N.enc p.1 ∧ (t p.1).p S H (.ref e.2.1) ∧ (u p.2).p S H e.2.2) ∧ NdOk K S H t u es ps
  | _, _ => False
variable {t : κ → Pv} [N : NE K t (n + 1)] {u : α → Pv} {S S' : Fz} {H H' : Hp}
theorem NdOk.up (l : Le S H S' H') : ∀ {es : EnL NK} {d : List (κ × α)}, NdOk K S H t u es d → NdOk K S' H' t u es d
  | [], [], _ => trivial
  | [], _ :: _, h => False.elim h
  | _ :: _, [], h => False.elim h
  | e :: es, p :: d, h => ⟨⟨h.1.1, (t p.1).up l h.1.2.1, (u p.2).up l h.1.2.2⟩, NdOk.up l h.2⟩
theorem NdOk.len : ∀ {es : EnL NK} {d : List (κ × α)}, NdOk K S H t u es d → es.length = d.length
  | [], [], _ => rfl
  | [], _ :: _, h => False.elim h
  | _ :: _, [], h => False.elim h
  | e :: es, p :: d, h => congrArg Nat.succ (NdOk.len h.2)
theorem NdOk.key : ∀ {es : EnL NK} {d : List (κ × α)}, NdOk K S H t u es d → ∀ e ∈ es, KyOf K t H e.1 (.ref e.2.1)
  | [], _, _, e, he => by simp at he
  | _ :: _, [], h, _, _ => False.elim h
  | e :: es, p :: d, h, e', he => by
    rcases List.mem_cons.mp he with rfl | he
    · exact ⟨S, p.1, h.1.1.symm, h.1.2.1⟩
    · exact NdOk.key h.2 e' he
theorem NdOk.at : ∀ {es : EnL NK} {d : List (κ × α)} {j : Nat} {e : NK × Addr × V}, NdOk K S H t u es d → es[j]? = some e → ∃ p, d[j]? = some p ∧ (t p.1).p S H (.ref e.2.1)
  | [], _, _, _, _, he => by simp at he
  | _ :: _, [], _, _, h, _ => False.elim h
  | e :: es, p :: d, 0, e', h, he => by cases he; exact ⟨p, rfl, h.1.2.1⟩
  | e :: es, p :: d, j + 1, e', h, he => NdOk.at (j := j) h.2 he
variable [DecidableEq κ]
theorem NdOk.look {k : κ} : ∀ {es : EnL NK} {d : List (κ × α)}, NdOk K S H t u es d → (∀ x, dlook d k = some x → ∃ v, Sl.lookN es (N.enc k) = some v ∧ (u x).p S H v) ∧ (dlook d k = none → Sl.lookN es (N.enc k) = none)
  | [], [], _ => ⟨fun x h => by simp [dlook] at h, fun _ => rfl⟩
  | [], _ :: _, h => False.elim h
  | _ :: _, [], h => False.elim h
  | e :: es, (k', x') :: d, h => by
    obtain ⟨i1, i2⟩ := NdOk.look (k := k) h.2
    by_cases z : k' = k
    · have z' : e.1 = N.enc k := by rw [h.1.1]; exact congrArg _ z
      have e1 : dlook ((k', x') :: d) k = some x' := by simp [dlook, List.find?_cons, z]
      have e2 : Sl.lookN (e :: es) (N.enc k) = some e.2.2 := by simp [Sl.lookN, List.find?_cons, z']
      rw [e1, e2]
      exact ⟨fun x hx => by cases hx; exact ⟨_, rfl, h.1.2.2⟩, fun z => by cases z⟩
    · have z' : ¬ e.1 = N.enc k := by rw [h.1.1]; exact fun q => z (N.inj _ _ q)
      have e1 : dlook ((k', x') :: d) k = dlook d k := by simp [dlook, List.find?_cons, z]
      have e2 : Sl.lookN (e :: es) (N.enc k) = Sl.lookN es (N.enc k) := by simp [Sl.lookN, List.find?_cons, z']
      rw [e1, e2]
      exact ⟨i1, i2⟩
theorem NdOk.has {k : κ} {es : EnL NK} {d : List (κ × α)} (h : NdOk K S H t u es d) : (Sl.lookN es (N.enc k)).isSome = dhas d k := by
  obtain ⟨h1, h2⟩ := h.look (k := k)
  unfold dhas
  cases e : dlook d k with
  | none => rw [h2 e]; rfl
  | some y => obtain ⟨v, e', _⟩ := h1 y e; rw [e']; rfl
theorem NdOk.put {k : κ} {y : α} {v : V} {b : Addr} {es : EnL NK} {d : List (κ × α)} (h : NdOk K S H t u es d) (hk : (t k).p S H (.ref b)) (hv : (u y).p S H v) : NdOk K S H t u (Sl.putN es (N.enc k) b v) (dput d k y) := by
  have any : (d.any fun kv => decide (kv.1 = k)) = (Sl.lookN es (N.enc k)).isSome := by
    rw [h.has (k := k)]
    unfold dhas dlook
    clear h
    induction d with
    | nil => rfl
    | cons p d ih =>
      by_cases z : p.1 = k
      · simp [List.find?_cons, z]
      · simp only [List.any_cons, List.find?_cons, z, decide_false, Bool.false_or]
        exact ih
  unfold Sl.putN dput
  rw [any]
  by_cases z : (Sl.lookN es (N.enc k)).isSome = true
  · rw [if_pos z, if_pos z]
    clear z any
    induction es generalizing d with
    | nil => cases d with
      | nil => trivial
      | cons p d => exact False.elim h
    | cons e es ih => cases d with
      | nil => exact False.elim h
      | cons p d =>
        refine ⟨?_, ih h.2⟩
        by_cases q : p.1 = k
        · have q' : e.1 = N.enc k := by rw [h.1.1, q]
          dsimp only
          rw [if_pos q', if_pos q]
          exact ⟨h.1.1, h.1.2.1, hv⟩
        · have q' : ¬ e.1 = N.enc k := by rw [h.1.1]; exact fun z => q (N.inj _ _ z)
          dsimp only
          rw [if_neg q', if_neg q]
          exact h.1
  · rw [if_neg z, if_neg z]
    clear z any
    induction es generalizing d with
    | nil => cases d with
      | nil => exact ⟨⟨rfl, hk, hv⟩, trivial⟩
      | cons p d => exact False.elim h
    | cons e es ih => cases d with
      | nil => exact False.elim h
      | cons p d => exact ⟨h.1, ih h.2⟩
end
/-! ### a dict that is walked in a comprehension -/
end Mi
namespace Sl
open PySem PySem.Spec PyProof.Rows L2
section
/-- a call of a method that raises nothing: the library's reading of it (pe_meth), as tMethO puts it -/
theorem methO_of {X : Cx} {ex : Expr} {C : Addr} {m : Str} {sp : Sp} {dvs : List V} {E : XK} {ta : TE} {t : TA} (h : PE X ex (tMeth C m sp dvs E ta t)) : PE X ex (tMethO C m sp dvs (fun _ => E) ta t) := ⟨h.run⟩
end
end Sl
namespace Sl
open PySem PySem.Spec PyProof.Rows L2
/-! ### {k: v for target in iter if ..}, the keys tuples of any depth -/
section
variable {P : Program} {w : World} {L : Type} [DecidableEq L] {κd : PySem.HeapKind P w L} {G : Hp → L → V → Prop} {K : PySem.W.Frag}
/-- out of the block: the frame around goes on -/
theorem leave {X : Cx} {s0 s : Shared} {H0 H : Hp} {scope : Scope} {ce : Env} {fp : List Addr} {pins : List (Addr × Obj)} {σ τ : L2.St} (I0 : Inv X pins σ H0 s0) (f : ∀ b ∈ fp, FpOk X pins H0 b) (I : Inv (X.blk s0 H0 scope ce fp) [] τ H s) : Inv X pins σ H s :=
  I0.call' I.os I.base I.hok I.bare fun b hb => ⟨(f b hb).2.2.2.1, (f b hb).2.1, (f b hb).2.2.2.2.1, (f b hb).2.2.2.2.2⟩
end
end Sl
namespace Mi
open PySem PySem.Spec PyProof.Rows L2
open Sl (isTup sz szl slt EnL)
/-! ### {k: v for ..}, the keys tuples -/
section
variable {ρ : Type} {A : Nat → Addr} {E : L2.St → XK} {K : PySem.W.Frag} {P : Program} {w : World} {Γ : Ctx} {c : Res ρ} {κ : Ctx → Vo → Res ρ → Prop} {te tke tve : TE} {κ' α : Type}
/-- dict(d) -/
theorem rc_dict {kps : List (Key × Pv)} (h : κ Γ (.own (oDct kps)) c) : RC A E (fun _ xs H Q => ∃ (a : Addr) (kvs : List (Key × V)), xs = [.ref a] ∧ Rd H a (.dK kvs) ∧ ∀ p, H p = none → Q (.ref p) (upd H p (.dK kvs))) [.val (pDct kps)] Γ c κ := fun F T S σ H vs Q' O R hc hg k => by
  obtain ⟨v, rfl, a, kvs, rfl, _, hr, hk, hl⟩ := ag1 hg
  exact ⟨a, kvs, rfl, hr, fun p hp => k _ _ _ h S _ _ (R.new hp) (le_new hp) (isOwn R hp ⟨kvs, rfl, hk.up (le_new hp), hl⟩) hc⟩
instance {K : PySem.W.Frag} : HasTy K (fun _ : Unit => yNon) "NoneType" := ⟨fun x S H v h => h ▸ .base .non⟩
end
section
variable {A : Nat → Addr} {E : XK} {N : List Str} {pre : List Ar → Cl → Prop} {t : TS} {vs : List V} {H : Hp} {Q : VK}
/-- a def that lets nothing out, though what it calls may raise -/
theorem fn_runN (h : spM A pre vs H Q E) (hl : ∀ as d, pre as d → as.length ≤ N.length) (hb : ∀ as d, pre as d → ∃ c, d.m = Res.noerr c ∧ WS A (fun _ _ _ _ => False) (ctx0 N.length as) t c (retD d as)) : t { nx := fun _ H' => Q .non H', rt := Q } (start N vs) H := by
  obtain ⟨S, as, d, h1, h2, h3, h4, h5, h6, h7⟩ := h
  obtain ⟨c, e, hw⟩ := hb as d h1
  exact fn_core (E := fun _ _ _ => False) (fun c => d.m = Res.noerr c) ⟨fun z => h5 z, fun e z S' H' f => absurd z h5⟩ (fun r z => z) e h2 h3 h4 h6 (h2.len ▸ hl as d h1) hw
end
end Mi
namespace Sl
open PySem PySem.Spec PyProof.Rows L2
end Sl
namespace Sl.DS
open PySem PySem.W PySem.Calls PyProof.Rows PyProof.V PySem.Spec
section
variable {prog : Program} {w : World} {K : Type} [DecidableEq K] {knd : PySem.KeyKind prog w K} {A : Around} {E : Value → Shared → Prop} {s : Shared}
/-- the entries of a dict and what they tell -/
structure Tells (knd : PySem.KeyKind prog w K) (es : Array DictEntry) (kvs : List (K × Value)) : Prop where
  keys : KeysOf knd es
  pairs : Pairs knd es.toList kvs
  once : (kvs.map (·.1)).Nodup
theorem Tells.size {es : Array DictEntry} {kvs : List (K × Value)} (t : Tells knd es kvs) : es.size = kvs.length := by
  rw [← t.pairs.length, Array.length_toList]
theorem Tells.find {es : Array DictEntry} {kvs : List (K × Value)} (t : Tells knd es kvs) (k : K) : (es.findIdx? fun e => knd.is k e.key) = kvs.findIdx? fun kv => decide (kv.1 = k) := by
  rw [← t.pairs.findIdx k]
  cases es
  simp
/-- what putting a pair does to the entries -/
def putE (knd : PySem.KeyKind prog w K) (es : Array DictEntry) (k : K) (key v : Value) : Array DictEntry :=
  match es.findIdx? fun e => knd.is k e.key with
  | some i => es.modify i fun e => { e with val := v }
  | none => es.push ⟨knd.hash k, key, v⟩
theorem Tells.put {es : Array DictEntry} {kvs : List (K × Value)} (t : Tells knd es kvs) {k : K} {key : Value} (hkey : knd.is k key = true) (v : Value) : Tells knd (putE knd es k key v) (stored kvs k v) := by
  have f := t.find k
  unfold putE
  cases e : es.findIdx? fun e => knd.is k e.key with
  | some i =>
    have there : kvs.any (fun kv => decide (kv.1 = k)) = true := any_of_findIdx_some (f ▸ e)
    have e' : (es.toList.findIdx? fun e => knd.is k e.key) = some i := by rw [t.pairs.findIdx k, ← f, e]
    rw [stored, if_pos there]
    refine ⟨t.keys.modify i v, ?_, (keys_map_store kvs k v).symm ▸ t.once⟩
    have p := t.pairs.modify t.once e' v
    cases es
    simpa using p
  | none =>
    have no : k ∉ kvs.map (·.1) := not_mem_of_findIdx_none (f ▸ e)
    have away : ¬ kvs.any (fun kv => decide (kv.1 = k)) = true := fun y => by
      obtain ⟨kv, h1, h2⟩ := List.any_eq_true.mp y
      exact no (of_decide_eq_true h2 ▸ List.mem_map_of_mem h1)
    rw [stored, if_neg away]
    refine ⟨t.keys.push hkey v, ?_, ?_⟩
    · rw [Array.toList_push]
      exact t.pairs.append hkey (knd.hash k) v
    · rw [List.map_append]
      exact List.nodup_append.mpr ⟨t.once, List.nodup_cons.mpr ⟨List.not_mem_nil, List.nodup_nil⟩, fun a ha b hb e => no (by rw [show a = k from e.trans (List.mem_singleton.mp hb)] at ha; exact ha)⟩
theorem run_put {d : Addr} {kvs : List (K × Value)} {k : K} {key v : Value} {Q : Unit → Shared → Prop} (hkey : knd.is k key = true) (hm : s.heap.DictOf knd d kvs) (hsz : kvs.length ≤ sizeLine)
    (hQ : ∀ h', h'.DictOf knd d (stored kvs k v) → Heap.SameBut d s.heap h' → Q () { s with heap := h' }) : wpAny (model prog w) A (dictPut d (knd.hash k) key v) Q E s := by
  obtain ⟨o, es, ep, at_, ex, dat, k1, k2, k3⟩ := hm
  have t : Tells knd es kvs := ⟨k1, k2, k3⟩
  have t' := t.put hkey v
  unfold dictPut
  refine wpAny_bind (wpAny_dictFind_of hkey at_ dat k1 ?_)
  unfold putE at t'
  cases e : es.findIdx? fun e => knd.is k e.key with
  | some i =>
    rw [e] at t'
    exact wpAny_updateDict at_ dat (hQ _ ⟨_, _, ep, Heap.get?_update_self _ at_ (Obj.isFreed_of_dict (Obj.data_mapDict dat _)), ex.mapDict _, Obj.data_mapDict dat _, t'.keys, t'.pairs, t'.once⟩ (Heap.SameBut.update ..))
  | none =>
    rw [e] at t'
    exact wpAny_updateDictKeys (hz := t.size ▸ hsz) at_ dat (hQ _ ⟨_, _, ep + 1, Heap.get?_update_self _ at_ (Obj.isFreed_of_dict (Obj.data_mapDictKeys dat _)), ex.mapDictKeys _, Obj.data_mapDictKeys dat _, t'.keys, t'.pairs, t'.once⟩ (Heap.SameBut.update ..))
/-- the turns from the i-th on -/
theorem run_turns {d o : Addr} {kvs more : List (K × Value)} {oo : Obj} {eso : Array DictEntry} {epo : Nat} {Q : PUnit → Shared → Prop} {body : Nat → PUnit → Sem (ForInStep PUnit)} (ne : o ≠ d) (at_ : oo.data = .dict eso epo) (t : Tells knd eso more) (hsz : kvs.length + more.length ≤ sizeLine)
    (hbody : ∀ (i : Nat) (e : DictEntry) (h : Heap) (R : ForInStep PUnit → Shared → Prop), eso[i]? = some e → h.get? o = some oo → wpAny (model prog w) A (dictPut d e.hash e.key e.val) (fun _ s' => s'.heap.get? o = some oo ∧ R (.yield ⟨⟩) s') E { s with heap := h } → wpAny (model prog w) A (body i ⟨⟩) R E { s with heap := h }) :
    ∀ (n i : Nat) (h : Heap), i + n = eso.size → h.DictOf knd d (merged kvs (more.take i)) → h.get? o = some oo → Heap.SameBut d s.heap h →
      (∀ h', h'.DictOf knd d (merged kvs more) → h'.get? o = some oo → Heap.SameBut d s.heap h' → Q ⟨⟩ { s with heap := h' }) → wpAny (model prog w) A (forIn (List.range' i n) (⟨⟩ : PUnit) body) Q E { s with heap := h } := by
  intro n
  induction n with
  | zero =>
    intro i h e hd ho sb q
    have el : i = more.length := by rw [← t.size]; omega
    subst el
    rw [List.take_length] at hd
    exact wpAny_pure (q h hd ho sb)
  | succ n ih =>
    intro i h e hd ho sb q
    have lt : i < eso.size := by omega
    have lt' : i < more.length := t.size ▸ lt
    rw [List.range'_succ, List.forIn_cons]
    refine wpAny_bind (hbody i eso[i] h _ (Array.getElem?_eq_getElem lt) ho ?_)
    obtain ⟨hk, hv⟩ := t.pairs.get? (e := eso[i]) (by simp [lt]) (List.getElem?_eq_getElem lt')
    obtain ⟨k', hk', hh⟩ := t.keys eso[i] (Array.getElem_mem lt)
    have ek := knd.inj _ _ _ hk' hk
    rw [hh, hv, ek]
    refine run_put hk hd (Nat.le_trans (merged_length_le ..) (by rw [List.length_take]; omega)) fun h' hd' sb' => ?_
    have ho' : h'.get? o = some oo := (sb'.2 o ne).trans ho
    refine ⟨ho', ih (i + 1) h' (by omega) ?_ ho' (sb.trans sb') q⟩
    rw [merged_take_succ kvs more i more[i] (List.getElem?_eq_getElem lt')]
    exact hd'
theorem no_refs {M : Model} {f : DictEntry → PUnit → Sem (ForInStep PUnit)} {Q : PUnit → Shared → Prop} : ∀ {l : List DictEntry}, (∀ e ∈ l, ∀ b, e.key ≠ .ref b) → (∀ e u, (∀ b, e.key ≠ .ref b) → f e u = pure (.yield ⟨⟩)) → Q ⟨⟩ s → wpAny M A (forIn l (⟨⟩ : PUnit) f) Q E s
  | [], _, _, q => wpAny_pure q
  | e :: l, h, hf, q => by
    rw [List.forIn_cons, hf e _ (h e (List.mem_cons_self ..))]
    exact wpAny_bind (wpAny_pure (no_refs (fun e he => h e (List.mem_cons_of_mem _ he)) hf q))
theorem mergeMap {d o : Addr} {kvs more : List (K × Value)} {Q : Unit → Shared → Prop} (hnr : ∀ k b, knd.is k (.ref b) = false) (hdo : d ≠ o) (hoS : (o == sysModules) = false)
    (hd : s.heap.DictOf knd d kvs) (ho : s.heap.DictOf knd o more)
    (hQ : ∀ h', h'.DictOf knd d (merged kvs more) → h'.DictOf knd o more → Heap.SameBut d s.heap h' → Q () { s with heap := h' }) (hsz : kvs.length + more.length ≤ sizeLine) :
    wpAny (model prog w) A (mergeMapping d (.ref o) false) Q E s := by
  obtain ⟨od, esd, epd, atd, _, dd, _⟩ := id hd
  obtain ⟨oo, eso, epo, ato, exo, dato, k1, k2, k3⟩ := id ho
  have t : Tells knd eso more := ⟨k1, k2, k3⟩
  unfold mergeMapping
  refine wpAny_bind (wpAny_isInstance ho.typeIs isSubtype_dict_dict ?_)
  rw [if_pos rfl]
  refine wpAny_bind (wpAny_specialOf ho.typeIs F.slot_dict_iter.lookup ?_)
  rw [show (some (Value.builtin "dict.__iter__") == some (Value.builtin "dict.__iter__")) = true from beq_self_eq_true _]
  refine wpAny_bind (wpAny_pure ?_)
  show wpAny _ _ (if (o == sysModules) = true then _ else _) _ _ _
  rw [if_neg (by rw [hoS]; exact Bool.false_ne_true)]
  refine wpAny_bind (wpAny_dictEntries atd dd ?_)
  by_cases none : esd.isEmpty = true
  rw [if_pos none]
  refine wpAny_bind (wpAny_dictEntries ato dato (wpAny_bind ?_))
  rw [← Array.forIn_toList]
  refine no_refs (fun e he b z => ?_) (fun e u h => by split; exact absurd (by assumption) (h _); rfl) ?_
  · obtain ⟨k, hk, _⟩ := k1 e (Array.mem_toList_iff.mp he)
    rw [z, hnr] at hk
    exact nomatch hk
  rotate_left
  rw [if_neg none]
  all_goals
    refine wpAny_bind (wpAny_dictEntries ato dato (wpAny_bind (wpAny_dictEpoch ato dato (wpAny_bind ?_))))
    rw [List.range_eq_range']
    refine run_turns (s := s) (Ne.symm hdo) dato t hsz (fun i e h R hi hoo put => ?_) eso.size 0 s.heap (by omega) (by simpa [merged] using hd) ato (Heap.SameBut.refl _ _) fun h' hd' ho' sb => wpAny_pure (hQ h' hd' ⟨oo, eso, epo, ho', exo, dato, k1, k2, k3⟩ sb)
    refine wpAny_bind (wpAny_dictEntries hoo dato ?_)
    rw [hi]
    refine wpAny_bind (wpAny_holding ?_)
    rw [if_neg Bool.false_ne_true]
    refine wpAny_mono put (fun _ s' ⟨hoo', r⟩ => ?_) fun _ _ z => z
    refine wpAny_bind (wpAny_dictEpoch hoo' dato ?_)
    rw [if_neg (by simp)]
    exact wpAny_pure r
end
end Sl.DS
namespace Sl
open PySem PySem.Spec PyProof.Rows L2
/-! ### {**d, k: v} -/
def tDStar1 (td tk tv : TE) : TE := fun σ H Q => ∀ p, H p = none → td σ (upd H p (.dK [])) fun x H1 => ∃ (b : Addr) (kvs : List (Key × V)), x = .ref b ∧ b ≠ p ∧ Rd H1 b (.dK kvs) ∧ H1 p = some (.dK []) ∧ kvs.length < sizeLine ∧
  ∀ q, upd H1 p (.dK (mergeK [] kvs)) q = none → tk σ (upd (upd H1 p (.dK (mergeK [] kvs))) q (.dK [])) fun y H2 => tv σ H2 fun z H3 => ∃ k, y = kV k ∧ H3 q = some (.dK []) ∧ H3 p = some (.dK (mergeK [] kvs)) ∧
    Q (.ref p) (upd (upd H3 q (.dK [(k, z)])) p (.dK (putK (mergeK [] kvs) k z)))
section
variable {X : Cx}
theorem key_nr {P : Program} {w : World} (k : Key) (b : Addr) : (mixKind P w).is k (.ref b) = false := by
  cases k <;> rfl
theorem pe_dstar1 {d kx vx : Expr} {td tk tv : TE} {pos : Pos} (hd : PE X d td) (hk : PE X kx tk) (hv : PE X vx tv) : PE X (.Dict [none, some kx] [d, vx] pos) (tDStar1 td tk tv) := by
  refine ⟨fun pins s σ H Q I h => ?_⟩
  show wpAny _ _ (do standAt pos; dictDisplay ((evalEachOpt [none, some kx] X.env).zip ((evalEach [d, vx] X.env).map fun v => do let x ← v; standAt pos; pure x))) _ _ s
  refine wpAny_bind (wpAny_standAt ?_)
  have e : (evalEachOpt [none, some kx] X.env).zip ((evalEach [d, vx] X.env).map fun v => do let x ← v; standAt pos; pure x) = [(none, do let x ← eval d X.env; standAt pos; pure x), (some (eval kx X.env), do let x ← eval vx X.env; standAt pos; pure x)] := by rfl
  rw [e]
  unfold dictDisplay
  simp only [List.forIn_cons, List.forIn_nil]
  refine wpAny_bind (wpAny_bind (wpAny_bind ?_))
  rw [if_pos (show ([] : List (Sem Value × Sem Value)).isEmpty = true from rfl)]
  refine wpAny_pure ?_
  dsimp only
  refine wpAny_bind (wpAny_alloc ?_)
  have hn := I.hok.fresh (Nat.le_refl s.heap.objs.size)
  have I1 := I.laid (a := s.heap.objs.size) (o := .dK []) (h' := s.heap.push { cls := .type "dict", data := .dict #[] }) (t' := s.toks) (fun _ _ q => Heap.get?_push_of_some _ q) (Nat.le_refl _) (dk_empty s.heap I.big)
  generalize s.heap.objs.size = p at hn I1 ⊢
  refine wpAny_bind (wpAny_holding (wpAny_bind (thn (hd.run pins _ σ _ _ I1 (h _ hn)) fun u s1 ⟨x, H1, I2, rx, b, kvs, ex, hbp, hb, hp, hl, q⟩ => wpAny_bind (wpAny_standAt (wpAny_pure ?_)))))
  subst ex
  obtain rfl : u = Value.ref b := rx
  obtain ⟨_, hbS, vs, rel, db⟩ := dk_rd I2.hok hb
  obtain ⟨_, hpS, vs0, rel0, dp⟩ := dk_of I2.hok hp
  cases rel0
  have lk : kvs.length = vs.length := Paired.length rel
  refine wpAny_bind (wpAny_onRaise (wpAny_tryCatch (wpAny_onRaise (wpAny_holding (DS.mergeMap (fun k b => key_nr k b) (Ne.symm hbp) hbS dp db (fun h' d' o' sb => ?_) (by simp only [List.length_nil]; omega))))))
  have he : ∃ q, h'.get? p = some q := let ⟨q, _, _, hq, _⟩ := d'; ⟨q, hq⟩
  have hmz : (mergeK [] kvs).length ≤ sizeLine := by have := length_mergeK kvs []; rw [List.length_nil] at this; omega
  have I3 : Inv X pins σ (upd H1 p (.dK (mergeK [] kvs))) { s1 with heap := h' } := d_write (t' := s1.toks) I2 (by rw [hp]; exact True.intro) sb he (dk_new hmz hpS (rel.merge .nil) d')
  refine wpAny_pure ?_
  dsimp only
  refine wpAny_bind ?_
  rw [if_neg (by simp)]
  refine wpAny_pure ?_
  dsimp only
  refine wpAny_pure ?_
  refine wpAny_bind ?_
  rw [if_neg (by simp)]
  dsimp only
  have hn2 := I3.hok.fresh (Nat.le_refl h'.objs.size)
  have I4 := I3.laid (a := h'.objs.size) (o := .dK []) (h' := h'.push { cls := .type "dict", data := .dict #[] }) (t' := s1.toks) (fun _ _ q => Heap.get?_push_of_some _ q) (Nat.le_refl _) (dk_empty h' I3.big)
  refine wpAny_bind (wpAny_holding (wpAny_subDict (knd := mixKind X.prog X.w) (by simp) ?_))
  show wpAny _ _ (evalPairs [(eval kx X.env, do let x ← eval vx X.env; standAt pos; pure x)]) _ _ _
  dsimp only
  generalize h'.objs.size = r at hn2 I4 ⊢
  refine evalPairs_cons (thn (hk.run pins _ σ _ _ I4 (q _ hn2)) fun uk s2 ⟨y, H2, I5, ry, qv⟩ => wpAny_bind (thn (hv.run pins s2 σ H2 _ I5 qv) fun uv s3 ⟨z, H3, I6, rz, k, ey, hq3, hp3, Qf⟩ => wpAny_bind (wpAny_standAt (wpAny_pure (evalPairs_nil ?_)))))
  subst ey
  obtain ⟨rs, ca, kvr⟩ := carries_of (P := X.prog) (w := X.w) (kvs := [(k, z)]) (ws := [(uk, uv)]) (.cons ⟨ry, rz⟩ .nil)
  obtain ⟨_, hrS, vr, relr, dr⟩ := dk_of I6.hok hq3
  cases relr
  refine ⟨rs, ca, dr, fun h2 d2 sb2 => ?_⟩
  have rne : r ≠ p := fun z => by
    rw [z, hp3] at hq3
    have hq3 : (HO.dK (mergeK [] kvs)) = .dK [] := Option.some.inj hq3
    rw [z] at hn2
    rw [upd_same] at hn2
    exact nomatch hn2
  have he2 : ∃ q, h2.get? r = some q := let ⟨q, _, _, hq, _⟩ := d2; ⟨q, hq⟩
  have m1 : mergeK [] [(k, z)] = [(k, z)] := rfl
  have I7 : Inv X pins σ (upd H3 r (.dK [(k, z)])) { s3 with heap := h2, toks := s3.toks + [(uk, uv)].length } := d_write I6 (by rw [hq3]; exact True.intro) sb2 he2 (dk_new (kvs := [(k, z)]) (by rw [sizeLine_eq]; show 1 ≤ 16777216; omega) hrS (m1 ▸ kvr.merge .nil) d2)
  have hp7 : upd H3 r (.dK [(k, z)]) p = some (.dK (mergeK [] kvs)) := by rw [upd_ne (Ne.symm rne)]; exact hp3
  obtain ⟨_, _, vp, relp, dp7⟩ := dk_of I7.hok hp7
  obtain ⟨_, _, vq, relq, dq7⟩ := dk_of I7.hok (upd_same (H := H3) (a := r) (o := HO.dK [(k, z)]))
  have lp : (mergeK [] kvs).length = vp.length := Paired.length relp
  have lq : 1 = vq.length := Paired.length relq
  have hml : (mergeK [] kvs).length < sizeLine := by have := length_mergeK kvs []; rw [List.length_nil] at this; omega
  refine wpAny_bind (wpAny_onRaise (wpAny_holding (DS.mergeMap (fun k b => key_nr k b) (Ne.symm rne) hrS dp7 dq7 (fun h3 d3 o3 sb3 => ?_) (by omega))))
  refine wpAny_pure ?_
  dsimp only
  refine wpAny_pure ?_
  have he3 : ∃ q, h3.get? p = some q := let ⟨q, _, _, hq, _⟩ := d3; ⟨q, hq⟩
  have m2 : mergeK (mergeK [] kvs) [(k, z)] = putK (mergeK [] kvs) k z := rfl
  have hz2 : (putK (mergeK [] kvs) k z).length ≤ sizeLine := by have := length_putK (mergeK [] kvs) k z; omega
  exact ⟨.ref p, _, d_write (s := { s3 with heap := h2, toks := s3.toks + [(uk, uv)].length }) (t' := s3.toks + [(uk, uv)].length) I7 (by rw [hp7]; exact True.intro) sb3 he3 (dk_new hz2 hpS (m2 ▸ relq.merge relp) d3), rfl, Qf⟩
end
end Sl
namespace Mi
open PySem PySem.Spec PyProof.Rows L2
open Sl (isTup sz szl slt)
/-! ### {**d, k: v} -/
section
variable {ρ : Type} {A : Nat → Addr} {E : L2.St → XK} {K : PySem.W.Frag} {Γ : Ctx} {c : Res ρ} {κ : Ctx → Vo → Res ρ → Prop} {α : Type} {t : α → Pv} {te td tke tve : TE} {i : Nat}
variable {κ' : Type} [DecidableEq κ'] {tk : κ' → Pv} [KV : KeyV κ' tk]
theorem KpOk.merge {S : Fz} {H : Hp} : ∀ {more : List (Key × V)} {e : List (κ' × α)} {kvs : List (Key × V)} {d : List (κ' × α)}, KpOk S H more (kpl t e) → KpOk S H kvs (kpl t d) → KpOk S H (mergeK kvs more) (kpl t (e.foldl (fun a kv => dput a kv.1 kv.2) d))
  | [], [], _, _, _, h => h
  | [], _ :: _, _, _, h, _ => False.elim h
  | _ :: _, [], _, _, h, _ => False.elim h
  | kv :: more, q :: e, kvs, d, h, h2 => by
    have h1 : kv.1 = DKey.ky q.1 := h.1.1
    show KpOk S H (mergeK (putK kvs kv.1 kv.2) more) _
    rw [h1]
    exact KpOk.merge (e := e) h.2 (h2.put h.1.2)
theorem wx_dstar1 {d : List (κ' × α)} {x : κ'} {y : α} {k : List (κ' × α) → Res ρ} (hg : Γ[i]? = some (.val (yDct t d))) (sk : Simp Γ tke (tk x)) (sv : Simp Γ tve (t y)) (e : c = (pdstar d x y).bind k) (h : ∀ d', κ Γ (.own (wDct t d')) (k d')) : WX A E Γ (Sl.tDStar1 (tVar i) tke tve) c κ := fun F T S σ H Q O R hc kk => by
  subst e
  unfold pdstar at hc
  by_cases z : d.length < 100000
  · rw [if_pos z] at hc
    obtain ⟨v, ev, b, kvs, rfl, hs, hr, hk, hl⟩ := R.val i _ hg
    obtain ⟨vk, pk, fk⟩ := sk F S σ H R
    obtain ⟨vv, pv, fv⟩ := sv F S σ H R
    have lk : kvs.length = d.length := by rw [hk.len]; exact kpl_len
    intro p hp
    have hbp : b ≠ p := fun z => by
      rw [z] at hr
      rcases hr with e | ⟨_, e⟩ <;> (rw [hp] at e; cases e)
    refine ⟨_, ev, b, kvs, rfl, hbp, ?_, upd_same, szl (by omega), fun q hq => fk _ _ (fv _ _ ⟨KV.ky x, KV.is _ _ _ _ pk, upd_same, ?_, ?_⟩)⟩
    · rcases hr with e | ⟨o, e⟩
      · exact .inl (by rw [upd_ne hbp]; exact e)
      · exact .inr ⟨o, by rw [upd_ne hbp]; exact e⟩
    · have hqp : p ≠ q := fun z => by rw [← z, upd_same] at hq; cases hq
      rw [upd_ne hqp, upd_same]
    · have hqp : q ≠ p := fun z => by rw [z, upd_same] at hq; cases hq
      have hq0 : H q = none := by rwa [upd_ne hqp, upd_ne hqp] at hq
      have eH : upd (upd (upd (upd (upd H p (.dK [])) p (.dK (mergeK [] kvs))) q (.dK [])) q (.dK [(KV.ky x, vv)])) p (.dK (putK (mergeK [] kvs) (KV.ky x) vv)) = upd (upd H p (.dK (putK (mergeK [] kvs) (KV.ky x) vv))) q (.dK [(KV.ky x, vv)]) := by
        funext a
        unfold upd
        by_cases e1 : a = p
        · subst e1
          rw [if_pos rfl, if_neg (Ne.symm hqp), if_pos rfl]
        · by_cases e2 : a = q
          · subst e2; simp [e1]
          · simp [e1, e2]
      show Q _ (upd (upd (upd (upd (upd H p (.dK [])) p (.dK (mergeK [] kvs))) q (.dK [])) q (.dK [(KV.ky x, vv)])) p (.dK (putK (mergeK [] kvs) (KV.ky x) vv)))
      rw [eH]
      have R1 := R.new (o := .dK (putK (mergeK [] kvs) (KV.ky x) vv)) hp
      have hq1 : upd H p (.dK (putK (mergeK [] kvs) (KV.ky x) vv)) q = none := by rw [upd_ne hqp]; exact hq0
      have R2 := R1.new (o := .dK [(KV.ky x, vv)]) hq1
      have l : Le S H S _ := (le_new (o := .dK (putK (mergeK [] kvs) (KV.ky x) vv)) hp).trans (le_new (o := .dK [(KV.ky x, vv)]) hq1)
      have hm : KpOk S H (mergeK [] kvs) (kpl t (dcopy d)) := KpOk.merge hk (d := []) trivial
      refine kk _ _ _ (h _) S _ _ R2 l ⟨p, _, rfl, by rw [upd_ne (Ne.symm hqp), upd_same], ⟨_, rfl, (hm.put pv).up l, ?_⟩, R.fr.nfz hp, .inr (R.fr.fresh hp), fun z => z.dom R hp⟩ hc
      have a1 := putK_len (kvs := mergeK [] kvs) (k := KV.ky x) (v := vv)
      have a2 := length_mergeK kvs []
      rw [List.length_nil] at a2
      exact sz (by omega)
  · rw [if_neg z] at hc; exact absurd hc O.nb
end
end Mi
namespace Mi
open PySem PySem.Spec PyProof.Rows L2
open Sl (isTup sz szl slt)
end Mi
namespace Mi
open PySem PySem.Spec PyProof.Rows L2
open Sl (isTup sz szl slt)
open RT (nolen_lri hint_lri vals_rev)
/-! ### list(reversed(xs)) -/
section
variable {ρ : Type} {A : Nat → Addr} {E : L2.St → XK} {K : PySem.W.Frag} {Γ : Ctx} {c : Res ρ} {Δ : Dl ρ} {α : Type} {κ : Ctx → Vo → Res ρ → Prop} {te tz : TE} {i : Nat}
/-! ### xs.insert(z, y), xs.pop(z) -/
theorem ags_len {σ : L2.St} {S : Fz} {H : Hp} : ∀ {vs : List V} {gs : List Ag}, AgsOk σ S H vs gs → vs.length = gs.length
  | [], [], _ => rfl
  | [], _ :: _, h => False.elim h
  | _ :: _, [], h => False.elim h
  | _ :: _, _ :: _, h => congrArg Nat.succ (ags_len h.2)
/-- xs.extend(t), t a tuple -/
theorem ws_extendT (t : α → Pv) {b : Bool} {xs0 : List α} (hg : Γ[i]? = some (.own b (wLst K t xs0))) (h : WX A E Γ te c fun Γ1 V c1 => ∃ b xs ys k, V = .val (yTup K t ys) ∧ Γ1[i]? = some (.own b (wLst K t xs)) ∧ c1 = (pcat xs ys).bind k ∧ ∀ zs, Δ.nx (Γ1.set i (.own b (wLst K t zs))) (k zs)) :
    WS A E Γ (tDrop (tBM K "list" (Sl.rExtendT K) (tVar i) (tCons te tNil))) c Δ := fun F T S σ H D O R hc d => by
  obtain ⟨a, _, e1, e2, ⟨vs, rfl, _, _⟩, _⟩ := R.own i b _ hg
  refine ⟨_, e1, .inl ⟨rfl, vs, .inl (.inl e2)⟩, ?_⟩
  refine h F T S σ H _ (O σ) R hc fun Γ1 V c1 h1 S1 H1 x R1 l1 p1 hc1 => ?_
  obtain ⟨b', xs, ys, k, rfl, hg1, rfl, h1⟩ := h1
  obtain ⟨hl, hT⟩ := pcat_of (O σ).nb hc1
  obtain ⟨a', _, w1, w2, ⟨ws, rfl, w3, _⟩, w5, _, _⟩ := R1.own i b' _ hg1
  rw [e1] at w1; cases w1
  obtain ⟨d', us, rfl, q2, q3, _⟩ := p1
  have n1 : ws.length = xs.length := by have := w3.length; rwa [List.length_map] at this
  have n2 : us.length = ys.length := by have := q3.length; rwa [List.length_map] at this
  have hsz : (ws ++ us).length ≤ sizeLine := sz (by rw [List.length_append]; omega)
  have lm := le_mut (o' := .lst (ws ++ us)) w2 w5 rfl
  have hw : (wLst K t (xs ++ ys)).w S1 (upd H1 a (.lst (ws ++ us))) (.lst (ws ++ us)) := ⟨_, rfl, by rw [List.map_append]; exact (w3.app q3).up lm, hsz⟩
  obtain ⟨l2, R2⟩ := R1.mut (O' := wLst K t (xs ++ ys)) (o' := .lst (ws ++ us)) hg1 e1 fun _ _ _ => hw
  exact ⟨a, d', ws, us, rfl, rfl, w2, q2, by rw [List.length_append] at hsz; exact hsz, d.nx _ _ (h1 _) S1 σ _ R2 (l1.trans l2) hT⟩
/-- f(e, .., k = v): n values, then m by their names; all of them together are the parameters -/
theorem wx_callN {pre : List Ar → Cl → Prop} {E1 : XK} {n m : Nat} {gV : List V → List V → List V} {tp tk tr : TA} (he : tCallN n m (spM A pre) gV E1 tp tk = fun σ H Q => tr σ H fun vs H1 => (vs.take n).length = n ∧ (vs.drop n).length = m ∧ spM A pre vs H1 Q E1)
    (h : WA A E Γ tr c fun Γ1 gs c1 => gs.length = n + m ∧ RC A E (fun _ vs H Q => spM A pre vs H Q E1) gs Γ1 c1 κ) : WX A E Γ (tCallN n m (spM A pre) gV E1 tp tk) c κ := fun F T S σ H Q O R hc k => by
  rw [he]
  refine h F T S σ H _ O R hc fun Γ1 gs c1 ⟨hn, h1⟩ S1 H1 xs R1 l1 p1 hc1 => ?_
  have hl : xs.length = gs.length := ags_len p1
  exact ⟨by rw [List.length_take]; omega, by rw [List.length_drop]; omega, h1 F T S1 σ H1 xs Q O R1 hc1 p1 fun Γ' V c' q S' H' v R' l => k Γ' V c' q S' H' v R' (l1.trans l)⟩
theorem wx_callN_2_1 {pre : List Ar → Cl → Prop} {E1 : XK} {a0 a1 a2 : TE} (h : WA A E Γ (tCons a0 (tCons a1 (tCons a2 tNil))) c fun Γ1 gs c1 => gs.length = 2 + 1 ∧ RC A E (fun _ vs H Q => spM A pre vs H Q E1) gs Γ1 c1 κ) : WX A E Γ (tCallN 2 1 (spM A pre) (fun vs zs => vs ++ zs) E1 (tCons a0 (tCons a1 tNil)) (tCons a2 tNil)) c κ := wx_callN rfl h
end
end Mi
namespace Mi
open PySem PySem.Spec PyProof.Rows L2
open Sl (isTup sz szl slt)
/-! ### a walk of a list of one's own -/
def pinF (F : Fr) (i : Nat) (a : Addr) : Fr := { F with ad := fun j => if j = i then a else F.ad j }
section
variable {F : Fr} {Γ : Ctx} {S : Fz} {σ : L2.St} {H : Hp} {a : Addr} {i : Nat} {O : Ow} {b : Bool}
theorem Rel.pin (R : Rel F Γ S σ H) (hg : Γ[i]? = some (.own b O)) (hs : σ[i]? = some (some (.ref a))) : Rel (pinF F i a) (Γ.set i (.own true O)) S σ H where
  fr := ⟨R.fr.kp, R.fr.fz, R.fr.le, R.fr.dm, R.fr.sd⟩
  len := by rw [List.length_set]; exact R.len
  val := fun j P h => by
    rcases set_at h with ⟨_, z⟩ | ⟨_, z⟩
    · cases z
    · exact R.val j P z
  own := fun j b' O' h => by
    rcases set_at h with ⟨rfl, z⟩ | ⟨n, z⟩
    · cases z
      obtain ⟨a', o, e1, e2, e3, e4, e5, _⟩ := R.own j b O hg
      rw [hs] at e1; cases e1
      exact ⟨a, o, hs, e2, e3, e4, e5, fun _ => (if_pos rfl).symm⟩
    · obtain ⟨a', o, e1, e2, e3, e4, e5, e6⟩ := R.own j b' O' z
      exact ⟨a', o, e1, e2, e3, e4, e5, fun h => (e6 h).trans (if_neg n).symm⟩
  sep := fun j k b1 b2 O1 O2 c h1 h2 => by
    have q : ∀ {j : Nat} {b1 : Bool} {O1 : Ow}, (Γ.set i (.own true O))[j]? = some (.own b1 O1) → ∃ b O, Γ[j]? = some (.own b O) := fun h => by
      rcases set_at h with ⟨rfl, _⟩ | ⟨_, z⟩
      · exact ⟨_, _, hg⟩
      · exact ⟨_, _, z⟩
    obtain ⟨_, _, q1⟩ := q h1
    obtain ⟨_, _, q2⟩ := q h2
    exact R.sep j k _ _ _ _ c q1 q2
theorem Rel.unpin (R : Rel (pinF F i a) Γ S σ H) (hg : Γ[i]? = some (.own true O)) (hb : b = true → a = F.ad i) : Rel F (Γ.set i (.own b O)) S σ H where
  fr := ⟨R.fr.kp, R.fr.fz, R.fr.le, R.fr.dm, R.fr.sd⟩
  len := by rw [List.length_set]; exact R.len
  val := fun j P h => by
    rcases set_at h with ⟨_, z⟩ | ⟨_, z⟩
    · cases z
    · exact R.val j P z
  own := fun j b' O' h => by
    rcases set_at h with ⟨rfl, z⟩ | ⟨n, z⟩
    · cases z
      obtain ⟨a', o, e1, e2, e3, e4, e5, e6⟩ := R.own j true O hg
      have e6 : a' = a := (e6 rfl).trans (if_pos rfl)
      exact ⟨a', o, e1, e2, e3, e4, e5, fun h => e6.trans (hb h)⟩
    · obtain ⟨a', o, e1, e2, e3, e4, e5, e6⟩ := R.own j b' O' z
      exact ⟨a', o, e1, e2, e3, e4, e5, fun h => (e6 h).trans (if_neg n)⟩
  sep := fun j k b1 b2 O1 O2 c h1 h2 => by
    have q : ∀ {j : Nat} {b1 : Bool} {O1 : Ow}, (Γ.set i (.own b O))[j]? = some (.own b1 O1) → ∃ b O, Γ[j]? = some (.own b O) := fun h => by
      rcases set_at h with ⟨rfl, _⟩ | ⟨_, z⟩
      · exact ⟨_, _, hg⟩
      · exact ⟨_, _, z⟩
    obtain ⟨_, _, q1⟩ := q h1
    obtain ⟨_, _, q2⟩ := q h2
    exact R.sep j k _ _ _ _ c q1 q2
end
section
variable {ρ : Type} {A : Nat → Addr} {E : L2.St → XK} {K : PySem.W.Frag} {Γ : Ctx} {c : Res ρ} {Δ : Dl ρ} {α : Type} {i : Nat} {g : TG} {tb : TS}
/-- for x in xs, xs a list of one's own that the turns leave alone -/
theorem ws_forO {μ : Type} (t : α → Pv) {b : Bool} {xs : List α} (Γs : μ → Ctx) (hg : Γ[i]? = some (.own b (wLst K t xs))) {f : μ → α → Res μ} {s0 : μ} {k : μ → Res ρ} (hc : c = (pfold f s0 xs).bind k)
    (hs : ∀ s, (Γs s)[i]? = some (.own true (wLst K t xs))) (sb : Sub (Γ.set i (.own true (wLst K t xs))) (Γs s0))
    (hb : ∀ s x, WG (Γs s) g (t x) fun Γ2 => WS A E Γ2 tb (f s x) ⟨fun Γ' c' => ∃ s', c' = .ok s' ∧ Sub Γ' (Γs s'), fun _ _ _ => False, fun _ _ => False, fun Γ' c' => ∃ s', c' = .ok s' ∧ Sub Γ' (Γs s')⟩)
    (hd : ∀ s, Δ.nx ((Γs s).set i (.own b (wLst K t xs))) (k s)) : WS A E Γ (tFor (iList K (tVar i)) g tb) c Δ := fun F T S σ H D O R hT d => by
  subst hc
  obtain ⟨a, _, e1, e2, ⟨vs, rfl, _, _⟩, _, _, e6⟩ := R.own i b _ hg
  have R1 := (R.pin hg e1).sub sb
  have lst : ∀ {s : μ} {S' : Fz} {σ' : L2.St} {H' : Hp}, Rel (pinF F i a) (Γs s) S' σ' H' → ∃ ws, H' a = some (.lst ws) ∧ PsOk S' H' ws (xs.map t) := fun {s S' σ' H'} R' => by
    obtain ⟨a', _, q1, q2, ⟨ws, rfl, q3, _⟩, _, _, q6⟩ := R'.own i true _ (hs s)
    have q6 : a' = a := (q6 rfl).trans (if_pos rfl)
    exact ⟨ws, q6 ▸ q2, q3⟩
  have W : Walk (Itl K a) xs.length (fun H' => ∃ ws, H' a = some (.lst ws) ∧ ws.length = xs.length) (fun j H1 x H' => H' = H1 ∧ ∀ ws, SqL K H1 a ws → ws[j]? = some x) :=
    ⟨fun j H1 hj ⟨ws, h1, h2⟩ => ⟨ws, ws[j]'(by omega), .of h1, List.getElem?_eq_getElem _⟩, fun H1 ⟨ws, h1, h2⟩ => ⟨ws, .of h1, by omega⟩, fun j H1 x H' _ _ y => y⟩
  have plen : ∀ {S' : Fz} {H' : Hp} {ws : List V}, PsOk S' H' ws (xs.map t) → ws.length = xs.length := fun h => by have := h.length; rwa [List.length_map] at this
  refine ⟨_, e1, a, rfl, ⟨_, .of e2⟩, ?_⟩
  refine for_it W (fun j σ' H' => ∃ s S', Rel (pinF F i a) (Γs s) S' σ' H' ∧ Le S H S' H' ∧ T ((pfold f s (xs.drop j)).bind k)) ⟨s0, S, R1, Le.refl, hT⟩ (fun j σ' H' _ ⟨s, S', R', _, _⟩ => ?_) ?_ ?_
  · obtain ⟨ws, h1, h2⟩ := lst R'
    exact ⟨ws, h1, plen h2⟩
  · rintro j x σ2 H2 H3 hj ⟨s, S2, R2, l2, hc2⟩ ⟨rfl, hx⟩
    obtain ⟨ws, h1, h2⟩ := lst R2
    obtain ⟨P, hP, hp⟩ := h2.at (hx ws (.of h1))
    obtain ⟨y, hy, rfl⟩ := map_at hP
    rw [pfold_drop hy, bind_assoc] at hc2
    refine hb s y (pinF F i a) S2 σ2 H3 x _ R2 hp fun Γ4 h4 σ4 R4 => ?_
    refine h4 (pinF F i a) (fun m => T (m.bind fun s' => (pfold f s' (xs.drop (j + 1))).bind k)) S2 σ4 H3 _ (fun σ => ⟨(O σ).nb, fun e he => ?_⟩) R4 hc2 ⟨?_, fun _ _ _ z => z.elim, fun _ _ z => z.elim, ?_⟩
    · exact fun S9 H9 f9 => (O σ).er e he S9 H9 ⟨f9.kp, f9.fz, f9.le, f9.dm, f9.sd⟩
    · rintro Γ' c' ⟨s', rfl, sb'⟩ S' σ' H' R' l' hc'
      exact ⟨s', S', R'.sub sb', l2.trans l', hc'⟩
    · rintro Γ' c' ⟨s', rfl, sb'⟩ S' σ' H' R' l' hc'
      exact ⟨s', S', R'.sub sb', l2.trans l', hc'⟩
  · rintro σ2 H2 ⟨s, S2, R2, l2, hc2⟩
    rw [List.drop_length] at hc2
    exact d.nx _ _ (hd s) S2 σ2 H2 (R2.unpin (hs s) e6) l2 hc2
end
/-- a block at whose end one slot may have to be frozen -/
theorem ws_blkZ {ρ : Type} {A : Nat → Addr} {E : L2.St → XK} {Γ : Ctx} {c : Res ρ} {Δ : Dl ρ} {s : TS} {μ : Type} (Γj : μ → Ctx) {m : Res μ} {k : μ → Res ρ} (e : c = m.bind k)
    (h : WS A E Γ s m ⟨fun Γ' c' => ∃ x, c' = .ok x ∧ (Sub Γ' (Γj x) ∨ ∃ i b O, Γ'[i]? = some (Slt.own b O) ∧ Sub (Γ'.set i (.val O.pv)) (Γj x)), fun _ _ _ => False, fun _ _ => False, fun _ _ => False⟩) (h2 : ∀ x, Δ.nx (Γj x) (k x)) : WS A E Γ s c Δ := fun F T S σ H D O R hc d => by
  subst e
  refine h F (fun m => T (m.bind k)) S σ H D (fun σ => ⟨(O σ).nb, (O σ).er⟩) R hc ⟨fun Γ' c' q S' σ' H' R' l hc' => ?_, fun _ _ _ z => z.elim, fun _ _ z => z.elim, fun _ _ z => z.elim⟩
  obtain ⟨x, rfl, sb | ⟨i, b, O, hg, sb⟩⟩ := q
  · exact d.nx _ _ (h2 x) S' σ' H' (R'.sub sb) l hc'
  · obtain ⟨a, o, e1, _⟩ := R'.own i b O hg
    obtain ⟨l2, _, R2⟩ := R'.freeze hg e1
    exact d.nx _ _ (h2 x) _ σ' H' (R2.sub sb) (l.trans l2) hc'
/-! ### xs.index(x) -/
def pindex {α : Type} [DecidableEq α] (xs : List α) (x : α) : Res Int := if x ∈ xs then .ok (xs.idxOf x : Nat) else .bad
section
variable {ρ : Type} {A : Nat → Addr} {E : L2.St → XK} {K : PySem.W.Frag} {Γ : Ctx} {c : Res ρ} {Δ : Dl ρ} {κ : Ctx → Vo → Res ρ → Prop} {te ty : TE}
theorem eqV_str {a b : Str} : eqV (.str a) (.str b) = decide (a = b) := by
  unfold eqV
  rw [Bool.eq_iff_iff]; simp
theorem wx_lindex (h : WX A E Γ te c fun Γ1 V1 c1 => ∃ xs, V1 = .val (yLst K yStr xs) ∧ WX A E Γ1 ty c1 fun Γ2 V2 c2 => ∃ x k, V2 = .val (yStr x) ∧ c2 = (pindex xs x).bind k ∧ ∀ n, κ Γ2 (.val (yInt n)) (k n)) :
    WX A E Γ (tBM K "list" (rIndex K) te (tCons ty tNil)) c κ := fun F T S σ H Q O R hc kk => by
  refine h F T S σ H _ O R hc fun Γ1 V1 c1 ⟨xs, e, h1⟩ S1 H1 v R1 l1 p1 hc1 => ?_
  subst e
  obtain ⟨a, vs, rfl, hs, hv, hl⟩ := p1
  refine ⟨.inl ⟨rfl, vs, hs.1⟩, ?_⟩
  refine h1 F T S1 σ H1 _ O R1 hc1 fun Γ2 V2 c2 ⟨x, k, e, ec, h2⟩ S2 H2 u R2 l2 p2 hc2 => ?_
  subst e; subst ec
  cases p2
  have ev := strs_of hv
  subst ev
  unfold pindex at hc2
  by_cases hm : x ∈ xs
  · rw [if_pos hm] at hc2
    have lt : xs.idxOf x < xs.length := List.idxOf_lt_length_iff.mpr hm
    have at_ : xs[xs.idxOf x]? = some x := by rw [List.getElem?_eq_getElem lt, List.getElem_idxOf lt]
    refine ⟨a, _, .str x, xs.idxOf x, .str x, rfl, rfl, (le_lsF l2 hs).1, rfl, ?_, by rw [List.getElem?_map, at_]; rfl, by rw [eqV_str]; simp, fun m z hlt hz => ?_, kk _ _ _ (h2 _) S2 H2 _ R2 (l1.trans l2) rfl hc2⟩
    · exact List.all_eq_true.mpr fun w hw => by
        obtain ⟨s, _, rfl⟩ := List.mem_map.mp hw
        rfl
    · rw [List.getElem?_map] at hz
      obtain ⟨s, h3, rfl⟩ := Option.map_eq_some_iff.mp hz
      rw [eqV_str]
      refine decide_eq_false fun e => ?_
      subst e
      have := List.not_of_lt_findIdx (p := fun y => y == s) (xs := xs) (i := m) hlt
      have q := (List.getElem?_eq_some_iff.mp h3).2
      rw [q] at this
      simp at this
  · rw [if_neg hm] at hc2; exact absurd hc2 O.nb
theorem pe_lindex {X : Cx} {K : PySem.W.Frag} {o a : Expr} {to ta : TE} {apos cpos : Pos} (e : X.K = K) (ho : PE X o to) (ha : PE X a ta)
    (hbase : attributeBase o ("index" : Str) X.env (eval o X.env) = eval o X.env := by rfl)
    (hfew : ((backTo cpos (starEach [a] X.env)).all (fun x => !x.1) && (backToKw cpos (keywordEach [] X.env)).all (fun x => x.1.isSome)
      && decide (([a] : List Expr).length + ([] : List Keyword).length + (if ([] : List Keyword).isEmpty then 0 else 1) < 30)) = true := by rfl)
    (hline : (apos.endLine == cpos.line) = true := by rfl) (hs : starEach [a] X.env = (false, eval a X.env) :: starEach [] X.env := by rfl) (hplain : (backTo cpos (starEach [] X.env)).any (·.1) = false := by rfl) :
    PE X (.Call (.Attribute o ("index" : Str) apos) [a] [] cpos) (tBM K "list" (rIndex K) to (tCons ta tNil)) := by
  subst e
  exact pe_bm PySem.F.plainAttrs_list PySem.F.slot_list_index PySem.F.type_list_index mt_index ho (pa_cons ha pa_nil hs) hbase hfew hline hs hplain
/-! ### mixed data that may be None -/
def Dy.opt {α : Type} (o : Option α) (f : α → Dy) : Dy := match o with
  | none => .non
  | some y => f y
instance {α : Type} {t : α → Pv} [D : ToDy K t] : ToDy K (yOpt t) := ⟨fun x => Dy.opt x D.to, D.n, fun x => by
  cases x with
  | none => simp [Dy.opt, encDy, PyData.depth]
  | some y => exact D.dep y, fun x S H v h => by
  cases x with
  | none => exact h
  | some y => exact D.ok y S H v h⟩
def Dy.isN (d : Dy) : Bool := d.sel true false false false
theorem isN_v {S : Fz} {H : Hp} {d : Dy} {v : V} (h : (yDy K d).p S H v) : decide (v = .non) = Dy.isN d := by
  cases d with
  | non => have e : v = .non := h.2; simp [e, Dy.isN, Dy.sel]
  | int i => have e : v = .int i := h.2; simp [e, Dy.isN, Dy.sel]
  | str i => have e : v = .str i := h.2; simp [e, Dy.isN, Dy.sel]
  | tup xs =>
    obtain ⟨_, a, _, e, _⟩ := h
    simp [e, Dy.isN, Dy.sel]
theorem rx_isDy {d : Dy} (h : κ Γ (.val (yBl (Dy.isN d))) c) : RX A E (fun x y H Q => y = .non ∧ Q (.bl (decide (x = .non))) H) (yDy K d) yNon Γ c κ := fun F T S σ H v w Q O R hc h1 h2 k => by
  refine ⟨h2, ?_⟩
  rw [isN_v h1]
  exact k _ _ _ h S H _ R Le.refl rfl hc
theorem rx_notDy {d : Dy} (h : κ Γ (.val (yBl (!Dy.isN d))) c) : RX A E (fun x y H Q => y = .non ∧ Q (.bl (!decide (x = .non))) H) (yDy K d) yNon Γ c κ := fun F T S σ H v w Q O R hc h1 h2 k => by
  refine ⟨h2, ?_⟩
  rw [isN_v h1]
  exact k _ _ _ h S H _ R Le.refl rfl hc
end
/-! ### the values behind a star -/
section
variable {K : PySem.W.Frag} {α : Type} {t : α → Pv}
theorem mTup_2 {a0 a1 : α} : pTup K [t a0, t a1] = yTup K t [a0, a1] := rfl
theorem mTup_3 {a0 a1 a2 : α} : pTup K [t a0, t a1, t a2] = yTup K t [a0, a1, a2] := rfl
theorem mTup_4 {a0 a1 a2 a3 : α} : pTup K [t a0, t a1, t a2, t a3] = yTup K t [a0, a1, a2, a3] := rfl
end
end Mi
namespace Sl
open PySem PySem.Spec PyProof.Rows L2 Mi
def f_Bits_holds (self : Unit) (constraint : (List (Str × Int))) (assignment : (List (Str × Int))) : Res (Bool) := Res.noerr (((pfor (fun (s1 : Unit) (q1 : (Str × Int)) => (((pdget assignment q1.1).bind fun r1 => (if (decide (r1 = q1.2)) then .ok (.rt true) else .ok (.nx ()))) : Res (Fl Unit (Bool)))) () constraint).thn (fun s1 => .ok false) (fun ρ => .ok ρ)))
def f_drop_name (names : (List Str)) (gone : Str) : ((List Str)) := ((names.filter fun q1 => (!decide (q1 = gone))).map fun q1 => q1)
def f_contains (first : (List (Str × Int))) (second : (List (Str × Int))) : Res (Bool) := Res.noerr (((pfor (fun (s1 : Unit) (q1 : (Str × Int)) => ((if (!pin q1 first) then .ok (.rt false) else .ok (.nx ())) : Res (Fl Unit (Bool)))) () second).thn (fun s1 => .ok true) (fun ρ => .ok ρ)))
def f_least_clauses (clauses : (List (List (Str × Int)))) : Res ((List (List (Str × Int)))) := Res.noerr (lt ([] : List (List (Str × Int))) fun least : (List (List (Str × Int))) => ((pfold (fun (s1 : ((List (List (Str × Int))))) (q1 : (List (Str × Int))) => (((pml (fun q2 : (List (Str × Int)) => (((f_contains q1 q2).bind fun r1 => .ok (some r1)) : Res (Option Bool))) s1).bind fun r2 => (if (!(r2.any id)) then ((psnoc s1 q1).bind fun z1 => .ok (z1)) else .ok (s1))) : Res ((List (List (Str × Int)))))) (least) (sortLen clauses)).bind fun s1 => ((psortB (ltL (ltP ltT ltI)) gdL s1).bind fun r3 => .ok r3)))
def f_resolvent (first : (List (Str × Int))) (second : (List (Str × Int))) (name : Str) : Res ((Option (List (Str × Int)))) := Res.noerr (lt ([] : (List (Str × Int))) fun signs : (List (Str × Int)) => ((pcat first second).bind fun r1 => ((pfor (fun (s1 : ((List (Str × Int)))) (q1 : (Str × Int)) => (((((if (!decide (q1.1 = name)) then ((pdsetd s1 q1.1 q1.2).bind fun d1 => .ok ((!decide ((dgetD s1 q1.1 q1.2) = q1.2)), (d1))) else .ok (false, (s1))) : Res (Bool × ((List (Str × Int)))))).bind fun r2 => (if r2.1 then .ok (.rt (none : (Option (List (Str × Int))))) else .ok (.nx (r2.2)))) : Res (Fl ((List (Str × Int))) ((Option (List (Str × Int))))))) (signs) (first ++ second)).thn (fun s1 => .ok (some (s1.mergeSort Sl.leSI))) (fun ρ => .ok ρ))))
def f_resolvents (clauses : (List (List (Str × Int)))) (name : Str) : Res ((List (List (Str × Int)))) := Res.noerr (lt ([] : List (List (Str × Int))) fun found : (List (List (Str × Int))) => ((pfold (fun (s1 : ((List (List (Str × Int))))) (q1 : (List (Str × Int))) => ((if (pin (name, (1 : Int)) q1) then ((pfold (fun (s2 : ((List (List (Str × Int))))) (q2 : (List (Str × Int))) => (((((if (pin (name, (0 : Int)) q2) then ((f_resolvent q1 q2 name).bind fun r1 => .ok (r1, ())) else .ok ((none : (Option (List (Str × Int)))), ())) : Res ((Option (List (Str × Int))) × Unit))).bind fun r2 => lt r2.1 fun clause : (Option (List (Str × Int))) => (if (clause.isSome) then ((punwrap clause).bind fun r3 => (psnoc s2 r3).bind fun z1 => .ok (z1)) else .ok (s2))) : Res ((List (List (Str × Int)))))) (s1) clauses).bind fun s2 => .ok (s2)) else .ok (s1)) : Res ((List (List (Str × Int)))))) (found) clauses).bind fun s1 => .ok s1))
def f_eliminate_name (clauses : (List (List (Str × Int)))) (name : Str) : Res ((List (List (Str × Int)))) := Res.noerr (lt ((clauses.filter fun q1 => ((!pin (name, (0 : Int)) q1) && (!pin (name, (1 : Int)) q1))).map fun q1 => q1) fun others : (List (List (Str × Int))) => ((f_resolvents clauses name).bind fun r1 => (pfit (others ++ r1 : List (List (Str × Int)))).bind fun r2 => (f_least_clauses r2).bind fun r3 => .ok r3))
def f_Bits_eliminate (self : Unit) (theory : ((List Str) × (List (List (Str × Int))))) (name : Str) : Res (((List Str) × (List (List (Str × Int))))) := Res.noerr (((f_eliminate_name theory.2 name).bind fun r1 => .ok ((f_drop_name theory.1 name), r1)))
def f_satisfies (kind : Unit) (theory : ((List Str) × (List (List (Str × Int))))) (assignment : (List (Str × Int))) : Res (Bool) := Res.noerr (((pfor (fun (s1 : Unit) (q1 : (List (Str × Int))) => (((f_Bits_holds kind q1 assignment).bind fun r1 => (if (!r1) then .ok (.rt false) else .ok (.nx ()))) : Res (Fl Unit (Bool)))) () theory.2).thn (fun s1 => .ok true) (fun ρ => .ok ρ)))
def f_Bits_lift (self : Unit) (theory : ((List Str) × (List (List (Str × Int))))) (name : Str) (assignment : (List (Str × Int))) : Res (Int) := ((pfor (fun (s1 : Unit) (q1 : Int) => (((pdstar assignment name q1).bind fun r1 => (f_satisfies self theory r1).bind fun r2 => (if r2 then .ok (.rt q1) else .ok (.nx ()))) : Res (Fl Unit (Int)))) () [((0 : Int), (1 : Int)).1, ((0 : Int), (1 : Int)).2]).thn (fun s1 => (.err ⟨3, .no⟩)) (fun ρ => .ok ρ))
def f_Bits_ground (self : Unit) (theory : ((List Str) × (List (List (Str × Int))))) : Res ((Option (List (Str × Int)))) := Res.noerr (((f_satisfies self theory ([] : (List (Str × Int)))).bind fun r1 => .ok (if r1 then (some ([] : (List (Str × Int)))) else (none : (Option (List (Str × Int)))))))
def f_close_clauses (clauses : (List (List (Str × Int)))) (names : (List Str)) : Res ((List (List (Str × Int)))) := Res.noerr (((f_least_clauses clauses).bind fun r1 => lt r1 fun found : (List (List (Str × Int))) => ((pfold (fun (s1 : ((List (List (Str × Int))))) (q1 : Str) => (((f_resolvents s1 q1).bind fun r2 => (pfit (s1 ++ r2 : List (List (Str × Int)))).bind fun r3 => (f_least_clauses r3).bind fun r4 => lt r4 fun found : (List (List (Str × Int))) => .ok (found)) : Res ((List (List (Str × Int)))))) (found) names).bind fun s1 => .ok s1)))
def f_Bits_normal (self : Unit) (theory : ((List Str) × (List (List (Str × Int))))) : Res (((List Str) × (List (List (Str × Int))))) := Res.noerr (((f_close_clauses theory.2 theory.1).bind fun r1 => .ok (theory.1, r1)))
def f_merge_names (lists : (List (List Str))) : Res ((List Str)) := Res.noerr (lt ([] : (List (Str × Bool))) fun found : (List (Str × Bool)) => ((pfold (fun (s1 : ((List (Str × Bool)))) (q1 : (List Str)) => (((pfold (fun (s2 : ((List (Str × Bool)))) (q2 : Str) => (((pdput s2 q2 true).bind fun d1 => .ok (d1)) : Res ((List (Str × Bool))))) (s1) q1).bind fun s2 => .ok (s2)) : Res ((List (Str × Bool))))) (found) lists).bind fun s1 => ((psortS (dkeys s1)).bind fun r1 => .ok (sortS (dkeys s1)))))
def f_shadow (kind : Unit) (theory : ((List Str) × (List (List (Str × Int))))) (shown : (List Str)) : Res (((List Str) × (List (List (Str × Int))))) := Res.noerr (((pfold (fun (s1 : (((List Str) × (List (List (Str × Int)))))) (q1 : Str) => ((if (!decide (q1 ∈ shown)) then ((f_Bits_eliminate kind s1 q1).bind fun r1 => lt r1 fun theory : ((List Str) × (List (List (Str × Int)))) => .ok (theory)) else .ok (s1)) : Res (((List Str) × (List (List (Str × Int))))))) (theory) theory.1).bind fun s1 => ((f_Bits_normal kind s1).bind fun r2 => .ok r2)))
def f_eliminated (kind : Unit) (theory : ((List Str) × (List (List (Str × Int))))) (names : (List Str)) : Res ((List ((List Str) × (List (List (Str × Int)))))) := Res.noerr (lt ([theory] : List ((List Str) × (List (List (Str × Int))))) fun theories : (List ((List Str) × (List (List (Str × Int))))) => ((pfold (fun (s1 : ((List ((List Str) × (List (List (Str × Int))))))) (q1 : Str) => (((pidx s1 (-(1 : Int))).bind fun r1 => (f_Bits_eliminate kind r1 q1).bind fun r2 => (psnoc s1 r2).bind fun z1 => .ok (z1)) : Res ((List ((List Str) × (List (List (Str × Int)))))))) (theories) (names.reverse)).bind fun s1 => .ok s1))
def f_lifted (kind : Unit) (theories : (List ((List Str) × (List (List (Str × Int)))))) (names : (List Str)) (assignment : (List (Str × Int))) : Res ((List (Str × Int))) := Res.noerr (lt assignment fun found : (List (Str × Int)) => (((guard (-40000 ≤ (names.length : Int) ∧ (names.length : Int) ≤ 40000))).bind fun r1 => ((pfold (fun (s1 : ((List (Str × Int)))) (q1 : Int) => (((pidx theories (((names.length : Int) - (1 : Int)) - q1)).bind fun r2 => (pidx names q1).bind fun r3 => (f_Bits_lift kind r2 r3 s1).bind fun r4 => (pidx names q1).bind fun r5 => (pdput s1 r5 r4).bind fun d1 => .ok (d1)) : Res ((List (Str × Int))))) (found) (rng 0 ((names.length : Int)).toNat)).bind fun s1 => .ok s1)))
def f_solve (kind : Unit) (theory : ((List Str) × (List (List (Str × Int))))) : Res ((Option (List (Str × Int)))) := Res.noerr (lt theory.1 fun names : (List Str) => ((f_eliminated kind theory names).bind fun r1 => lt r1 fun theories : (List ((List Str) × (List (List (Str × Int))))) => ((pidx theories (-(1 : Int))).bind fun r2 => (f_Bits_ground kind r2).bind fun r3 => lt r3 fun ground : (Option (List (Str × Int))) => (if (ground.isNone) then .ok (none : (Option (List (Str × Int)))) else ((punwrap ground).bind fun r4 => (f_lifted kind theories names r4).bind fun r5 => .ok (some r5))))))
def f_join (theories : (List ((List Str) × (List (List (Str × Int)))))) : Res (((List Str) × (List (List (Str × Int))))) := Res.noerr (lt ([] : (List Str)) fun names : (List Str) => lt ([] : List (List (Str × Int))) fun constraints : (List (List (Str × Int))) => ((pfold (fun (s1 : ((List Str) × (List (List (Str × Int))))) (q1 : ((List Str) × (List (List (Str × Int))))) => (((f_merge_names ([s1.1, q1.1] : List (List Str))).bind fun r1 => lt r1 fun names : (List Str) => ((pcat s1.2 q1.2).bind fun z1 => .ok (names, z1))) : Res ((List Str) × (List (List (Str × Int)))))) (names, constraints) theories).bind fun s1 => .ok (s1.1, s1.2)))
def f_middles (kind : Unit) (theories : (List ((List Str) × (List (List (Str × Int)))))) : Res ((Option (List ((List Str) × (List (List (Str × Int))))))) := Res.noerr (lt (([] : (List Str)), ([] : (List (List (Str × Int))))) fun held : ((List Str) × (List (List (Str × Int)))) => lt ([] : List ((List Str) × (List (List (Str × Int))))) fun found : (List ((List Str) × (List (List (Str × Int))))) => (((guard (-40000 ≤ ((theories.length : Int) - (1 : Int)) ∧ ((theories.length : Int) - (1 : Int)) ≤ 40000))).bind fun r1 => ((pfold (fun (s1 : (((List Str) × (List (List (Str × Int)))) × (List ((List Str) × (List (List (Str × Int))))))) (q1 : Int) => (((pidx theories q1).bind fun r2 => (f_join ([s1.1, r2] : List ((List Str) × (List (List (Str × Int)))))).bind fun r3 => lt r3 fun held : ((List Str) × (List (List (Str × Int)))) => ((f_join (pcut theories (some (q1 + (1 : Int))) none)).bind fun r4 => lt r4.1 fun later : (List Str) => ((f_shadow kind held ((held.1.filter fun q2 => (decide (q2 ∈ later))).map fun q2 => q2)).bind fun r5 => lt r5 fun held : ((List Str) × (List (List (Str × Int)))) => ((psnoc s1.2 held).bind fun z1 => .ok (held, z1))))) : Res (((List Str) × (List (List (Str × Int)))) × (List ((List Str) × (List (List (Str × Int)))))))) (held, found) (rng 0 (((theories.length : Int) - (1 : Int))).toNat)).bind fun s1 => ((pfit ([s1.1] ++ (pcut theories (some (-(1 : Int))) none) : List ((List Str) × (List (List (Str × Int)))))).bind fun r6 => (f_join r6).bind fun r7 => (f_solve kind r7).bind fun r8 => (if (r8.isSome) then .ok (none : (Option (List ((List Str) × (List (List (Str × Int))))))) else .ok (some s1.2))))))
def f_middle (kind : Unit) (first : ((List Str) × (List (List (Str × Int))))) (second : ((List Str) × (List (List (Str × Int))))) : Res ((Option ((List Str) × (List (List (Str × Int)))))) := Res.noerr (((f_middles kind ([first, second] : List ((List Str) × (List (List (Str × Int)))))).bind fun r1 => lt r1 fun found : (Option (List ((List Str) × (List (List (Str × Int)))))) => ((((if (found.isNone) then .ok ((none : (Option ((List Str) × (List (List (Str × Int)))))), ()) else ((punwrap found).bind fun r2 => (pidx r2 (0 : Int)).bind fun r3 => .ok ((some r3), ()))) : Res ((Option ((List Str) × (List (List (Str × Int))))) × Unit))).bind fun r4 => .ok r4.1)))
def f__law_source (_law_script : (List Int)) (_law_k : Int) : Res ((List Int)) := Res.noerr (lt (0 : Int) fun _law_number : Int => (((if (decide (_law_k < (_law_script.length : Int))) then ((pidx _law_script _law_k).bind fun r1 => lt r1 fun _law_number : Int => .ok (_law_number)) else .ok (_law_number)) : Res (Int)).bind fun s1 => .ok ([s1, (((100 : Int) * _law_k) + (_law_script.length : Int))] : List Int)))
def f__law_from (_law_script : (List Int)) (_law_k : Int) : Res ((List Int)) := Res.noerr (((f__law_source _law_script _law_k).bind fun r1 => lt r1 fun _law_source_here : (List Int) => (((if ((decide ((_law_script.length : Int) ≤ _law_k)) && (decide ((0 : Int) < (_law_script.length : Int)))) then ((pmod _law_k (_law_script.length : Int)).bind fun r2 => (pidx _law_script r2).bind fun r3 => (pset _law_source_here (0 : Int) (r3 % (999999999999999989 : Int))).bind fun z1 => .ok (z1)) else .ok (_law_source_here)) : Res ((List Int))).bind fun s1 => .ok s1)))
def f__law_draw (_law_source_here : (List Int)) (_law_limit : Int) : Res (Int × (List Int)) := Res.noerr (((pidx _law_source_here (0 : Int)).bind fun r1 => lt r1 fun _law_number : Int => (if (decide (((10 : Int) ^ ((18 : Int)).toNat) ≤ _law_number)) then ((pdiv _law_number _law_limit).bind fun r2 => (pset _law_source_here (0 : Int) r2).bind fun z1 => ((pmod _law_number _law_limit).bind fun r3 => .ok (r3, z1))) else ((pidx _law_source_here (1 : Int)).bind fun r4 => (pset _law_source_here (1 : Int) (r4 + (1 : Int))).bind fun z2 => ((pidx z2 (1 : Int)).bind fun r5 => lt ((((_law_number * (48271 : Int)) + (r5 * (69621 : Int))) + (7 : Int)) % (2147483647 : Int)) fun _law_mixed : Int => ((pmul _law_mixed _law_mixed).bind fun r6 => (pidx z2 (1 : Int)).bind fun r7 => lt (((r6 + _law_number) + (r7 * (40692 : Int))) % (2147483629 : Int)) fun _law_mixed : Int => ((pmul _law_mixed _law_mixed).bind fun r8 => lt (((r8 + (_law_mixed / (4096 : Int))) + (12345 : Int)) % (2147483587 : Int)) fun _law_mixed : Int => ((pmod (_law_mixed / (64 : Int)) _law_limit).bind fun r9 => .ok (r9, z2)))))))))
def f__law_some (_law_source_here : (List Int)) (_law_names_here : (List Str)) (_law_most : Int) : Res ((List Str) × (List Int)) := Res.noerr (lt ([] : List Str) fun _law_found : (List Str) => ((pfold (fun (s1 : ((List Int) × (List Str))) (q1 : Str) => (((((if (decide ((s1.2.length : Int) < _law_most)) then ((f__law_draw s1.1 (3 : Int)).bind fun r1 => .ok ((decide ((0 : Int) < r1.1)), (r1.2))) else .ok (false, (s1.1))) : Res (Bool × ((List Int))))).bind fun r2 => (if r2.1 then ((psnoc s1.2 q1).bind fun z1 => .ok (r2.2, z1)) else .ok (r2.2, s1.2))) : Res ((List Int) × (List Str)))) (_law_source_here, _law_found) _law_names_here).bind fun s1 => .ok (s1.2, s1.1)))
def f__law_exact_r : Nat → (Dy) → (Dy) → Res (Bool)
  | 0, _, _ => .bad
  | fuel + 1, _law_actual, _law_due_here => Res.noerr ((if (Dy.sel _law_due_here false false false true) then ((((if (!(Dy.sel _law_actual false false false true)) then .ok (true, ()) else ((Dy.asT _law_actual).bind fun r1 => (Dy.asT _law_due_here).bind fun r2 => .ok ((!decide ((r1.length : Int) = (r2.length : Int))), ()))) : Res (Bool × Unit))).bind fun r3 => (if r3.1 then .ok false else ((Dy.asT _law_due_here).bind fun r4 => ((guard (-40000 ≤ (r4.length : Int) ∧ (r4.length : Int) ≤ 40000))).bind fun r5 => ((pfor (fun (s2 : Unit) (q1 : Int) => (((Dy.ix _law_actual q1).bind fun r6 => (Dy.ix _law_due_here q1).bind fun r7 => (f__law_exact_r fuel r6 r7).bind fun r8 => (if (!r8) then .ok (.rt false) else .ok (.nx ()))) : Res (Fl Unit (Bool)))) () (rng 0 ((r4.length : Int)).toNat)).thn (fun s2 => .ok true) (fun ρ => .ok ρ))))) else (if (Dy.sel _law_due_here false false true false) then .ok ((Dy.sel _law_actual false false true false) && (decide (_law_actual = _law_due_here))) else .ok ((Dy.sel _law_actual false true false false) && ((!(Dy.sel _law_actual false false false false)) && (decide (_law_actual = _law_due_here)))))))
termination_by n => n
theorem f__law_exact_r_ne {n : Nat} {_law_actual : Dy} {_law_due_here : Dy} {e : Er} (z : f__law_exact_r n _law_actual _law_due_here = .err e) : False := by
  cases n with
  | zero => rw [f__law_exact_r] at z; cases z
  | succ n => rw [f__law_exact_r] at z; exact noerr_ne z
def f__law_rows (_law_count : Int) : Res ((List (List Int))) := Res.noerr (lt ([([] : (List Int))] : List (List Int)) fun _law_rows_here : (List (List Int)) => (((guard (-40000 ≤ _law_count ∧ _law_count ≤ 40000))).bind fun r1 => ((pfold (fun (s1 : ((List (List Int)))) (q1 : Int) => (((pml (fun q2 : (List Int) => (((pcat q2 ([(0 : Int)] : (List Int))).bind fun r2 => .ok (some (q2 ++ ([(0 : Int)] : (List Int))))) : Res (Option (List Int)))) s1).bind fun r3 => (pml (fun q3 : (List Int) => (((pcat q3 ([(1 : Int)] : (List Int))).bind fun r4 => .ok (some (q3 ++ ([(1 : Int)] : (List Int))))) : Res (Option (List Int)))) s1).bind fun r5 => (pcat r3 r5).bind fun r6 => lt (r3 ++ r5) fun _law_rows_here : (List (List Int)) => .ok (_law_rows_here)) : Res ((List (List Int))))) (_law_rows_here) (rng 0 (_law_count).toNat)).bind fun s1 => .ok s1)))
def f__law_kept (_law_names_here : (List Str)) (_law_row : (List Int)) (_law_clauses_here : (List (List (Str × Int)))) : Res (Bool) := Res.noerr (((pfor (fun (s1 : Unit) (q1 : (List (Str × Int))) => (((pml (fun q2 : (Str × Int) => (((pindex _law_names_here q2.1).bind fun r1 => (pidx _law_row r1).bind fun r2 => (if (decide (r2 = q2.2)) then .ok (some q2) else .ok none)) : Res (Option (Str × Int)))) q1).bind fun r3 => (if (decide ((r3.length : Int) = (0 : Int))) then .ok (.rt false) else .ok (.nx ()))) : Res (Fl Unit (Bool)))) () _law_clauses_here).thn (fun s1 => .ok true) (fun ρ => .ok ρ)))
def f__law_clause (_law_source_here : (List Int)) (_law_names_here : (List Str)) (_law_held : (List (Str × Int))) : Res ((List (Str × Int)) × (List Int)) := Res.noerr (lt ([] : List (Str × Int)) fun _law_literals : (List (Str × Int)) => ((pfold (fun (s1 : ((List Int) × (List (Str × Int)))) (q1 : Str) => (((f__law_draw s1.1 (5 : Int)).bind fun r1 => (if (decide (r1.1 < (2 : Int))) then ((f__law_draw r1.2 (2 : Int)).bind fun r2 => (psnoc s1.2 (q1, r2.1)).bind fun z1 => .ok (r2.2, z1)) else .ok (r1.2, s1.2))) : Res ((List Int) × (List (Str × Int))))) (_law_source_here, _law_literals) _law_names_here).bind fun s1 => ((((((if (decide ((s1.2.length : Int) = (0 : Int))) then ((((if (decide ((0 : Int) < (_law_names_here.length : Int))) then ((f__law_draw s1.1 (12 : Int)).bind fun r3 => .ok ((decide ((0 : Int) < r3.1)), (r3.2))) else .ok (false, (s1.1))) : Res (Bool × ((List Int))))).bind fun r4 => .ok (r4.1, (r4.2))) else .ok (false, (s1.1))) : Res (Bool × ((List Int))))).bind fun r5 => ((if r5.1 then ((f__law_draw r5.2 (_law_names_here.length : Int)).bind fun r6 => (pidx _law_names_here r6.1).bind fun r7 => lt r7 fun _law_name : Str => ((f__law_draw r6.2 (2 : Int)).bind fun r8 => (psnoc s1.2 (_law_name, r8.1)).bind fun z2 => .ok (r8.2, z2))) else .ok (r5.2, s1.2)) : Res ((List Int) × (List (Str × Int)))))).bind fun s4 => (((if ((decide ((0 : Int) < (s4.2.length : Int))) && (decide ((((s4.2.filter fun q2 => (decide ((dgetD _law_held q2.1 q2.2) = q2.2))).map fun q2 => q2).length : Int) = (0 : Int)))) then ((pidx s4.2 (0 : Int)).bind fun r9 => (pidx s4.2 (0 : Int)).bind fun r10 => (pset s4.2 (0 : Int) (r9.1, ((1 : Int) - r10.2))).bind fun z3 => .ok (z3)) else .ok (s4.2)) : Res ((List (Str × Int)))).bind fun s5 => .ok (s5, s4.1)))))
def f__law_theory (_law_source_here : (List Int)) (_law_k : Int) (_law_common : (List (Str × Int))) : Res (((List Str) × (List (List (Str × Int)))) × (List Int)) := Res.noerr (lt ([("a" : Str), ("a1" : Str), ("b" : Str), ("c.d" : Str), ("d" : Str)] : List Str) fun _law_pool : (List Str) => lt (min _law_k (2 : Int)) fun _law_at : Int => ((f__law_some _law_source_here (pcut _law_pool (some _law_at) (some (_law_at + (3 : Int)))) (3 : Int)).bind fun r1 => lt r1.1 fun _law_names_here : (List Str) => ((((((if (!decide (("a" : Str) ∈ _law_names_here)) then ((f__law_draw r1.2 (3 : Int)).bind fun r2 => .ok ((decide (r2.1 < ((2 : Int) * ((1 : Int) - (_law_k % (2 : Int)))))), (r2.2))) else .ok (false, (r1.2))) : Res (Bool × ((List Int))))).bind fun r3 => ((if r3.1 then ((pcat ([("a" : Str)] : List Str) _law_names_here).bind fun r4 => lt (([("a" : Str)] : List Str) ++ _law_names_here) fun _law_names_here : (List Str) => .ok (r3.2, _law_names_here)) else .ok (r3.2, _law_names_here)) : Res ((List Int) × (List Str))))).bind fun s2 => lt _law_common fun _law_held : (List (Str × Int)) => ((((((if (decide ((_law_common.length : Int) = (0 : Int))) then ((f__law_draw s2.1 (6 : Int)).bind fun r5 => .ok ((decide ((0 : Int) < r5.1)), (r5.2))) else .ok (false, (s2.1))) : Res (Bool × ((List Int))))).bind fun r6 => ((if r6.1 then lt ([] : (List (Str × Int))) fun _law_held : (List (Str × Int)) => ((pfold (fun (s4 : ((List Int) × (List (Str × Int)))) (q1 : Str) => (((f__law_draw s4.1 (2 : Int)).bind fun r7 => (pdput s4.2 q1 r7.1).bind fun d1 => .ok (r7.2, d1)) : Res ((List Int) × (List (Str × Int))))) (r6.2, _law_held) s2.2).bind fun s4 => .ok (s4.1, s4.2)) else .ok (r6.2, _law_held)) : Res ((List Int) × (List (Str × Int)))))).bind fun s5 => ((f__law_draw s5.1 (7 : Int)).bind fun r8 => ((guard (-40000 ≤ r8.1 ∧ r8.1 ≤ 40000))).bind fun r9 => (plc (fun (s7 : ((List Int))) (q2 : Int) => (((f__law_clause s7 s2.2 s5.2).bind fun r10 => .ok (some r10.1, (r10.2))) : Res (Option (List (Str × Int)) × ((List Int))))) (r8.2) (rng 0 (r8.1).toNat)).bind fun r11 => lt r11.1 fun _law_clauses_here : (List (List (Str × Int))) => .ok ((s2.2, _law_clauses_here), r11.2))))))
def f__law_theories (_law_script : (List Int)) : Res ((List ((List Str) × (List (List (Str × Int)))))) := Res.noerr (((f__law_from _law_script (0 : Int)).bind fun r1 => lt r1 fun _law_source_here : (List Int) => ((f__law_draw _law_source_here (8 : Int)).bind fun r2 => (pidx ([(0 : Int), (1 : Int), (2 : Int), (2 : Int), (3 : Int), (3 : Int), (4 : Int), (4 : Int)] : List Int) r2.1).bind fun r3 => lt r3 fun _law_many : Int => lt ([] : (List (Str × Int))) fun _law_common : (List (Str × Int)) => ((((f__law_draw r2.2 (4 : Int)).bind fun r4 => ((if (decide (r4.1 = (0 : Int))) then ((pfold (fun (s1 : ((List Int) × (List (Str × Int)))) (q1 : Str) => (((f__law_draw s1.1 (2 : Int)).bind fun r5 => (pdput s1.2 q1 r5.1).bind fun d1 => .ok (r5.2, d1)) : Res ((List Int) × (List (Str × Int))))) (r4.2, _law_common) ([("a" : Str), ("a1" : Str), ("b" : Str), ("c.d" : Str), ("d" : Str)] : List Str)).bind fun s1 => .ok (s1.1, s1.2)) else .ok (r4.2, _law_common)) : Res ((List Int) × (List (Str × Int)))))).bind fun s2 => (((guard (-40000 ≤ _law_many ∧ _law_many ≤ 40000))).bind fun r6 => (pml (fun q2 : Int => (((f__law_from _law_script ((1 : Int) + q2)).bind fun r7 => (f__law_theory r7 q2 s2.2).bind fun r8 => .ok (some r8.1)) : Res (Option ((List Str) × (List (List (Str × Int))))))) (rng 0 (_law_many).toNat)).bind fun r9 => .ok r9)))))
def f__law_clauses (_law_names_here : (List Str)) : Res ((List (List (Str × Int)))) := Res.noerr (lt ([([] : (List (Str × Int)))] : List (List (Str × Int))) fun _law_found : (List (List (Str × Int))) => ((pfold (fun (s1 : ((List (List (Str × Int))))) (q1 : Str) => (((pml (fun q2 : (List (Str × Int)) => (((pcat q2 ([(q1, (0 : Int))] : (List (Str × Int)))).bind fun r1 => .ok (some (q2 ++ ([(q1, (0 : Int))] : (List (Str × Int)))))) : Res (Option (List (Str × Int))))) s1).bind fun r2 => (pcat s1 r2).bind fun r3 => (pml (fun q3 : (List (Str × Int)) => (((pcat q3 ([(q1, (1 : Int))] : (List (Str × Int)))).bind fun r4 => .ok (some (q3 ++ ([(q1, (1 : Int))] : (List (Str × Int)))))) : Res (Option (List (Str × Int))))) s1).bind fun r5 => (pcat (s1 ++ r2) r5).bind fun r6 => lt ((s1 ++ r2) ++ r5) fun _law_found : (List (List (Str × Int))) => .ok (_law_found)) : Res ((List (List (Str × Int)))))) (_law_found) _law_names_here).bind fun s1 => .ok (sortLen s1)))
def f__law_normal (_law_names_here : (List Str)) (_law_rows_here : (List (List Int))) : Res (((List Str) × (List (List (Str × Int))))) := Res.noerr (lt ([] : List (List (Str × Int))) fun _law_least : (List (List (Str × Int))) => ((f__law_clauses _law_names_here).bind fun r1 => ((pfold (fun (s1 : ((List (List (Str × Int))))) (q1 : (List (Str × Int))) => (lt false fun _law_larger : Bool => ((pfold (fun (s2 : (Bool)) (q2 : (List (Str × Int))) => ((if (decide ((((q2.filter fun q3 => (!pin q3 q1)).map fun q3 => q3).length : Int) = (0 : Int))) then lt true fun _law_larger : Bool => .ok (_law_larger) else .ok (s2)) : Res (Bool))) (_law_larger) s1).bind fun s2 => ((((if (!s2) then ((pml (fun q4 : (List Int) => (((f__law_kept _law_names_here q4 ([q1] : (List (List (Str × Int))))).bind fun r2 => (if (!r2) then .ok (some q4) else .ok none)) : Res (Option (List Int)))) _law_rows_here).bind fun r3 => .ok ((decide ((r3.length : Int) = (0 : Int))), ())) else .ok (false, ())) : Res (Bool × Unit))).bind fun r4 => (if r4.1 then ((psnoc s1 q1).bind fun z1 => .ok (z1)) else .ok (s1)))) : Res ((List (List (Str × Int)))))) (_law_least) r1).bind fun s1 => ((psortB (ltL (ltP ltT ltI)) gdL s1).bind fun r5 => .ok (_law_names_here, r5)))))
def f__law_names (_law_theories_here : (List ((List Str) × (List (List (Str × Int)))))) : Res ((List Str)) := Res.noerr (lt ([] : List Str) fun _law_found : (List Str) => ((pfold (fun (s1 : ((List Str))) (q1 : ((List Str) × (List (List (Str × Int))))) => (((pfold (fun (s2 : ((List Str))) (q2 : Str) => ((if (!decide (q2 ∈ s2)) then ((psnoc s2 q2).bind fun z1 => .ok (z1)) else .ok (s2)) : Res ((List Str)))) (s1) q1.1).bind fun s2 => .ok (s2)) : Res ((List Str)))) (_law_found) _law_theories_here).bind fun s1 => ((psortS s1).bind fun r1 => .ok (sortS s1))))
def f__law_due (_law_theories_here : (List ((List Str) × (List (List (Str × Int)))))) : Res ((Option (List ((List Str) × (List (List (Str × Int))))))) := Res.noerr (((f__law_names _law_theories_here).bind fun r1 => lt r1 fun _law_names_here : (List Str) => ((f__law_rows (_law_names_here.length : Int)).bind fun r2 => lt r2 fun _law_rows_here : (List (List Int)) => lt ([] : List ((List Str) × (List (List (Str × Int))))) fun _law_found : (List ((List Str) × (List (List (Str × Int))))) => (((guard (-40000 ≤ (_law_theories_here.length : Int) ∧ (_law_theories_here.length : Int) ≤ 40000))).bind fun r3 => ((pfold (fun (s1 : ((List (List Int)) × (List ((List Str) × (List (List (Str × Int))))))) (q1 : Int) => (((pml (fun q2 : (List Int) => (((pidx _law_theories_here q1).bind fun r4 => (f__law_kept _law_names_here q2 r4.2).bind fun r5 => (if r5 then .ok (some q2) else .ok none)) : Res (Option (List Int)))) s1.1).bind fun r6 => lt r6 fun _law_rows_here : (List (List Int)) => ((f__law_names (pcut _law_theories_here (some (q1 + (1 : Int))) none)).bind fun r7 => lt r7 fun _law_later : (List Str) => ((f__law_names (pcut _law_theories_here none (some (q1 + (1 : Int))))).bind fun r8 => lt ((r8.filter fun q3 => (decide (q3 ∈ _law_later))).map fun q3 => q3) fun _law_common : (List Str) => lt ([] : List (List Int)) fun _law_seen : (List (List Int)) => ((pfold (fun (s2 : ((List (List Int)))) (q4 : (List Int)) => (((pml (fun q5 : Str => (((pindex _law_names_here q5).bind fun r9 => (pidx q4 r9).bind fun r10 => .ok (some r10)) : Res (Option Int))) _law_common).bind fun r11 => lt r11 fun _law_short : (List Int) => (if (!pin _law_short s2) then ((psnoc s2 _law_short).bind fun z1 => .ok (z1)) else .ok (s2))) : Res ((List (List Int))))) (_law_seen) _law_rows_here).bind fun s2 => ((f__law_normal _law_common s2).bind fun r12 => (psnoc s1.2 r12).bind fun z2 => .ok (_law_rows_here, z2)))))) : Res ((List (List Int)) × (List ((List Str) × (List (List (Str × Int)))))))) (_law_rows_here, _law_found) (rng 0 ((_law_theories_here.length : Int)).toNat)).bind fun s1 => (if (decide ((0 : Int) < (s1.1.length : Int))) then .ok (none : (Option (List ((List Str) × (List (List (Str × Int))))))) else .ok (some (pcut s1.2 none (some ((_law_theories_here.length : Int) - (1 : Int)))))))))))
def f__law_ask (_law_kind : Unit) (_law_theories_here : (List ((List Str) × (List (List (Str × Int)))))) : Res ((Option (List ((List Str) × (List (List (Str × Int))))))) := Res.noerr ((if (decide ((_law_theories_here.length : Int) = (0 : Int))) then ((f_middles _law_kind ([] : List ((List Str) × (List (List (Str × Int)))))).bind fun r1 => .ok r1) else (if (decide ((_law_theories_here.length : Int) = (1 : Int))) then ((pidx _law_theories_here (0 : Int)).bind fun r2 => (f_middles _law_kind ([r2] : List ((List Str) × (List (List (Str × Int)))))).bind fun r3 => .ok r3) else (if (decide ((_law_theories_here.length : Int) = (2 : Int))) then ((pidx _law_theories_here (0 : Int)).bind fun r4 => (pidx _law_theories_here (1 : Int)).bind fun r5 => (f_middles _law_kind ([r4, r5] : List ((List Str) × (List (List (Str × Int)))))).bind fun r6 => .ok r6) else (if (decide ((_law_theories_here.length : Int) = (3 : Int))) then ((pidx _law_theories_here (0 : Int)).bind fun r7 => (pidx _law_theories_here (1 : Int)).bind fun r8 => (pidx _law_theories_here (2 : Int)).bind fun r9 => (f_middles _law_kind ([r7, r8, r9] : List ((List Str) × (List (List (Str × Int)))))).bind fun r10 => .ok r10) else ((pidx _law_theories_here (0 : Int)).bind fun r11 => (pidx _law_theories_here (1 : Int)).bind fun r12 => (pidx _law_theories_here (2 : Int)).bind fun r13 => (pidx _law_theories_here (3 : Int)).bind fun r14 => (f_middles _law_kind ([r11, r12, r13, r14] : List ((List Str) × (List (List (Str × Int)))))).bind fun r15 => .ok r15))))))
def f__law_right (_law_actual : Dy) (_law_due_here : Dy) : Res (Bool) := Res.noerr ((if (Dy.isN _law_due_here) then .ok (Dy.isN _law_actual) else ((f__law_exact_r 7 _law_actual _law_due_here).bind fun r1 => .ok r1)))
def f_law (_law_script : (List Int)) : Res (Bool) := Res.noerr (lt () fun _law_kind : Unit => ((f__law_theories _law_script).bind fun r1 => lt r1 fun _law_theories_here : (List ((List Str) × (List (List (Str × Int))))) => ((f__law_ask _law_kind _law_theories_here).bind fun r2 => (f__law_due _law_theories_here).bind fun r3 => (f__law_right (Dy.opt r2 fun z => (Dy.tup (z.map fun z => (Dy.tup [(Dy.tup (z.1.map fun z => (Dy.str z))), (Dy.tup (z.2.map fun z => (Dy.tup (z.map fun z => (Dy.tup [(Dy.str z.1), (Dy.int z.2)])))))])))) (Dy.opt r3 fun z => (Dy.tup (z.map fun z => (Dy.tup [(Dy.tup (z.1.map fun z => (Dy.str z))), (Dy.tup (z.2.map fun z => (Dy.tup (z.map fun z => (Dy.tup [(Dy.str z.1), (Dy.int z.2)])))))]))))).bind fun r4 => (if (!r4) then .ok false else lt (_law_theories_here.reverse) fun _law_turned : (List ((List Str) × (List (List (Str × Int))))) => ((f__law_ask _law_kind _law_turned).bind fun r5 => (f__law_due _law_turned).bind fun r6 => (f__law_right (Dy.opt r5 fun z => (Dy.tup (z.map fun z => (Dy.tup [(Dy.tup (z.1.map fun z => (Dy.str z))), (Dy.tup (z.2.map fun z => (Dy.tup (z.map fun z => (Dy.tup [(Dy.str z.1), (Dy.int z.2)])))))])))) (Dy.opt r6 fun z => (Dy.tup (z.map fun z => (Dy.tup [(Dy.tup (z.1.map fun z => (Dy.str z))), (Dy.tup (z.2.map fun z => (Dy.tup (z.map fun z => (Dy.tup [(Dy.str z.1), (Dy.int z.2)])))))]))))).bind fun r7 => (if (!r7) then .ok false else ((pcat _law_theories_here ([(([] : (List Str)), ([] : (List (List (Str × Int)))))] : List ((List Str) × (List (List (Str × Int)))))).bind fun r8 => ((pfor (fun (s1 : Unit) (q1 : ((List Str) × (List (List (Str × Int))))) => (((pcat q1.2 ([([] : (List (Str × Int)))] : (List (List (Str × Int))))).bind fun r9 => lt (q1.1, (q1.2 ++ ([([] : (List (Str × Int)))] : (List (List (Str × Int)))))) fun _law_broken : ((List Str) × (List (List (Str × Int)))) => ((f__law_ask _law_kind ([q1] : List ((List Str) × (List (List (Str × Int)))))).bind fun r10 => (f__law_due ([q1] : List ((List Str) × (List (List (Str × Int)))))).bind fun r11 => (f__law_right (Dy.opt r10 fun z => (Dy.tup (z.map fun z => (Dy.tup [(Dy.tup (z.1.map fun z => (Dy.str z))), (Dy.tup (z.2.map fun z => (Dy.tup (z.map fun z => (Dy.tup [(Dy.str z.1), (Dy.int z.2)])))))])))) (Dy.opt r11 fun z => (Dy.tup (z.map fun z => (Dy.tup [(Dy.tup (z.1.map fun z => (Dy.str z))), (Dy.tup (z.2.map fun z => (Dy.tup (z.map fun z => (Dy.tup [(Dy.str z.1), (Dy.int z.2)])))))]))))).bind fun r12 => (((if (!r12) then .ok (true, ()) else ((f__law_ask _law_kind ([_law_broken] : List ((List Str) × (List (List (Str × Int)))))).bind fun r13 => (f__law_right (Dy.opt r13 fun z => (Dy.tup (z.map fun z => (Dy.tup [(Dy.tup (z.1.map fun z => (Dy.str z))), (Dy.tup (z.2.map fun z => (Dy.tup (z.map fun z => (Dy.tup [(Dy.str z.1), (Dy.int z.2)])))))])))) (Dy.tup [])).bind fun r14 => .ok ((!r14), ()))) : Res (Bool × Unit))).bind fun r15 => (if r15.1 then .ok (.rt false) else .ok (.nx ())))) : Res (Fl Unit (Bool)))) () (_law_theories_here ++ ([(([] : (List Str)), ([] : (List (List (Str × Int)))))] : List ((List Str) × (List (List (Str × Int))))))).thn (fun s1 => ((pfor (fun (s3 : Unit) (q2 : (List ((List Str) × (List (List (Str × Int)))))) => ((if (decide ((q2.length : Int) = (2 : Int))) then ((f__law_due q2).bind fun r16 => lt (Dy.opt r16 fun z => (Dy.tup (z.map fun z => (Dy.tup [(Dy.tup (z.1.map fun z => (Dy.str z))), (Dy.tup (z.2.map fun z => (Dy.tup (z.map fun z => (Dy.tup [(Dy.str z.1), (Dy.int z.2)])))))])))) fun _law_due_here : Dy => (((if (!Dy.isN _law_due_here) then ((Dy.ix _law_due_here (0 : Int)).bind fun r17 => lt r17 fun _law_due_here : Dy => .ok (_law_due_here)) else .ok (_law_due_here)) : Res (Dy)).bind fun s4 => ((pidx q2 (0 : Int)).bind fun r18 => (pidx q2 (1 : Int)).bind fun r19 => (f_middle _law_kind r18 r19).bind fun r20 => (f__law_right (Dy.opt r20 fun z => (Dy.tup [(Dy.tup (z.1.map fun z => (Dy.str z))), (Dy.tup (z.2.map fun z => (Dy.tup (z.map fun z => (Dy.tup [(Dy.str z.1), (Dy.int z.2)])))))])) s4).bind fun r21 => (if (!r21) then .ok (.rt false) else .ok (.nx ()))))) else .ok (.nx ())) : Res (Fl Unit (Bool)))) () ([(pcut _law_theories_here none (some (2 : Int))), (pcut _law_theories_here (some (-(2 : Int))) none), (pcut _law_turned none (some (2 : Int)))] : List (List ((List Str) × (List (List (Str × Int))))))).thn (fun s3 => .ok true) (fun ρ => .ok ρ))) (fun ρ => .ok ρ)))))))))
end Sl
namespace Sl
open PySem PySem.Spec PyProof.Rows L2 Mi
theorem draw_ok {l : List Int} {lim : Int} (hl : Src2 l) (h0 : 0 < lim) (h1 : lim < 1073741824) : Ret (f__law_draw l lim) fun r => (0 ≤ r.1 ∧ r.1 < lim) ∧ Src2 r.2 := by
  obtain ⟨n, c, rfl⟩ := hl
  have e0 : ∀ a b : Int, pidx [a, b] 0 = .ok a := fun _ _ => rfl
  have e1 : ∀ a b : Int, pidx [a, b] 1 = .ok b := fun _ _ => rfl
  have s0 : ∀ a b x : Int, pset [a, b] 0 x = .ok [x, b] := fun _ _ _ => rfl
  have s1 : ∀ a b x : Int, pset [a, b] 1 x = .ok [a, x] := fun _ _ _ => rfl
  have lm : ∀ x : Int, 0 ≤ x % lim ∧ x % lim < lim := fun x => ⟨Int.emod_nonneg _ (by omega), Int.emod_lt_of_pos _ h0⟩
  refine ret_noerr (ret_eq (e0 ..) (ret_ltE fun N _ => ret_if (fun _ => ?_) fun _ => ?_))
  · exact ret_eq (pdiv_ok h0 h1) (ret_eq (s0 ..) (ret_eq (pmod_ok h0) (ret_ok ⟨lm _, _, _, rfl⟩)))
  · refine ret_eq (e1 ..) (ret_eq (s1 ..) (ret_eq (e1 ..) (ret_ltE fun m hm => ?_)))
    have hm1 : 0 ≤ m ∧ m < 2147483647 := by rw [hm]; exact ⟨Int.emod_nonneg _ (by omega), Int.emod_lt_of_pos _ (by omega)⟩
    clear hm
    refine ret_eq (pmul_l (by omega) (by omega)) (ret_eq (e1 ..) (ret_ltE fun m2 hm2 => ?_))
    have hm3 : 0 ≤ m2 ∧ m2 < 2147483629 := by rw [hm2]; exact ⟨Int.emod_nonneg _ (by omega), Int.emod_lt_of_pos _ (by omega)⟩
    clear hm2
    exact ret_eq (pmul_l (by omega) (by omega)) (ret_ltE fun m3 _ => ret_eq (pmod_ok h0) (ret_ok ⟨lm _, _, _, rfl⟩))
theorem source_ok {ns : List Int} {k : Int} (h0 : 0 ≤ k) : Ret (f__law_source ns k) Src2 :=
  ret_noerr (ret_lt (ret_bind (P := fun _ => True) (ret_if (fun h => ret_bind (pidx_get h0 (of_decide_eq_true h)) fun x _ => ret_lt (ret_ok trivial)) fun _ => ret_ok trivial) fun x _ => ret_ok ⟨_, _, rfl⟩))
/-! symbolic steps -/
theorem ret_assoc {α β γ : Type} {m : Res α} {k : α → Res β} {l : β → Res γ} {P : γ → Prop} (h : Ret (m.bind fun a => (k a).bind l) P) : Ret ((m.bind k).bind l) P := by rw [bind_assoc]; exact h
theorem ret_okb {α β : Type} {a : α} {k : α → Res β} {P : β → Prop} (h : Ret (k a) P) : Ret ((Res.ok a).bind k) P := h
theorem ret_iteb {α β : Type} {c : Prop} [Decidable c] {a b : Res α} {k : α → Res β} {P : β → Prop} (h1 : c → Ret (a.bind k) P) (h2 : ¬ c → Ret (b.bind k) P) : Ret ((if c then a else b).bind k) P := by
  by_cases h : c
  · rw [if_pos h]; exact h1 h
  · rw [if_neg h]; exact h2 h
theorem ret_ltb {α β γ : Type} {x : α} {m : α → Res β} {k : β → Res γ} {P : γ → Prop} (h : Ret ((m x).bind k) P) : Ret ((lt x m).bind k) P := h
theorem dix0 {a : Dy} {xs : List Dy} : Dy.ix (.tup (a :: xs)) 0 = .ok a := pidx_nat (n := 0) rfl
theorem dix1 {a b : Dy} {xs : List Dy} : Dy.ix (.tup (a :: b :: xs)) 1 = .ok b := pidx_nat (n := 1) rfl
theorem dix2 {a b c : Dy} {xs : List Dy} : Dy.ix (.tup (a :: b :: c :: xs)) 2 = .ok c := pidx_nat (n := 2) rfl
theorem dix3 {a b c d : Dy} {xs : List Dy} : Dy.ix (.tup (a :: b :: c :: d :: xs)) 3 = .ok d := pidx_nat (n := 3) rfl
theorem pdy_ok {xs : List Dy} (h : xs.all Dy.atom = true) : pdy xs = .ok (.tup xs) := by
  unfold pdy
  rw [if_pos]
  rw [encDy, PyData.depth]
  have := atoms_dep h
  omega
local macro_rules | `(tactic| walk_at "sh" ) => `(tactic| skip)
local macro_rules | `(tactic| walk_at "rgo") => `(tactic| repeat' (first
  | with_reducible refine ret_noerr ?_
  | with_reducible refine ret_lt ?_
  | with_reducible refine ret_ltb ?_
  | with_reducible refine ret_ok ?_
  | with_reducible refine ret_okb ?_
  | with_reducible refine ret_assoc ?_
  | (with_reducible refine ret_eq (guard_ok (by omega)) ?_)
  | (with_reducible refine ret_bind (draw_ok (by assumption) (by first | omega | (simp; omega)) (by first | omega | (simp; omega))) (fun r h => ?_); obtain ⟨h1, h2⟩ := h)
  | (with_reducible refine ret_bind (pidx_get (by omega) (by first | omega | (simp; omega))) (fun r h => ?_); obtain ⟨h1, h2⟩ := h)
  | (with_reducible refine ret_eq (psnoc_ok (by omega)) ?_)
  | (with_reducible refine ret_eq (pcat_ok (by first | omega | (simp; omega))) ?_)
  | (with_reducible refine ret_eq dix0 ?_) | (with_reducible refine ret_eq dix1 ?_) | (with_reducible refine ret_eq dix2 ?_) | (with_reducible refine ret_eq dix3 ?_)
  | (with_reducible refine ret_eq (pdy_ok rfl) ?_)
  | (with_reducible refine ret_eq (show Dy.asI (.int _) = .ok _ from rfl) ?_)
  | (with_reducible refine ret_iteb (fun h => ?_) (fun h => ?_) <;> (try simp only [decide_eq_true_eq, decide_eq_false_iff_not, Bool.not_eq_true', Bool.not_eq_true, Bool.and_eq_true, Bool.or_eq_true, Bool.false_eq_true, not_false_eq_true, not_true_eq_false] at h))
  | (with_reducible refine ret_if (fun h => ?_) (fun h => ?_) <;> (try simp only [decide_eq_true_eq, decide_eq_false_iff_not, Bool.not_eq_true', Bool.not_eq_true, Bool.and_eq_true, Bool.or_eq_true, Bool.false_eq_true, not_false_eq_true, not_true_eq_false] at h))))
theorem contains_ok {a b : Cla} : f_contains a b = .ok (b.all fun l => pin l a) := by
  unfold f_contains
  rw [pall fun l : Lit => pin l a]
  · rfl
  · intro l _
    cases pin l a <;> rfl
theorem resolvent_ok {a b : Cla} {name : Str} (hl : a.length + b.length < 1000) : Ret (f_resolvent a b name) fun o => match o with
    | none => Clash name (a ++ b)
    | some r => r.Pairwise (fun x y => slt x.1 y.1) ∧ ∀ l, l ∈ r ↔ l.1 ≠ name ∧ l ∈ a ++ b := by
  refine ret_noerr (ret_lt (ret_eq (pcat_ok (by omega)) (ret_thn (ret_for (Sg name) (Sg name (a ++ b)) (fun o => o = none ∧ Clash name (a ++ b)) ⟨List.nodup_nil, Nat.le_refl _, fun n v h => (nomatch h), fun l h => nomatch h⟩ (fun _ h => h) fun pre l post s e hs => ?_) (fun s hs => ret_ok ⟨sortSI_pw hs.nd, fun l => ?_⟩) fun o ho => ?_)))
  · have hpl : pre.length < 1000 := by have := congrArg List.length e; simp at this; omega
    by_cases hn : l.1 = name
    · refine ret_eq (x := (false, s)) (by rw [if_neg (by simpa using hn)]) (ret_if (fun z => nomatch z) fun _ => ret_ok ⟨hs.nd, by rw [List.length_append]; exact Nat.le_trans hs.le (Nat.le_add_right ..), fun n v h => ⟨(hs.fro n v h).1, List.mem_append_left _ (hs.fro n v h).2⟩, fun m hm hmn => ?_⟩)
      rcases List.mem_append.mp hm with hm | hm
      · exact hs.all m hm hmn
      · rw [List.mem_singleton.mp hm] at hmn; exact absurd hn hmn
    · have hle := hs.le
      cases hd : dlook s l.1 with
      | some v =>
        have e1 : pdsetd s l.1 l.2 = .ok s := by unfold pdsetd; rw [if_pos (by omega), hd]
        have e2 : dgetD s l.1 l.2 = v := by unfold dgetD; rw [hd]; rfl
        refine ret_eq (x := (!decide (v = l.2), s)) (by rw [if_pos (by simpa using hn), e1, bind_ok, e2]) (ret_if (fun z => ret_ok ⟨rfl, ?_⟩) fun z => ret_ok ⟨hs.nd, by rw [List.length_append]; exact Nat.le_trans hs.le (Nat.le_add_right ..), fun n v h => ⟨(hs.fro n v h).1, List.mem_append_left _ (hs.fro n v h).2⟩, fun m hm hmn => ?_⟩)
        · have z : v ≠ l.2 := by simpa using z
          have := hs.fro _ _ hd
          exact ⟨(l.1, v), by rw [e]; exact List.mem_append_left _ this.2, l, by rw [e]; simp, rfl, hn, z⟩
        · have z : v = l.2 := by simpa using z
          rcases List.mem_append.mp hm with hm | hm
          · exact hs.all m hm hmn
          · rw [List.mem_singleton.mp hm, hd, z]
      | none =>
        have e1 : pdsetd s l.1 l.2 = .ok (dput s l.1 l.2) := by unfold pdsetd; rw [if_pos (by omega), hd]
        have e2 : dgetD s l.1 l.2 = l.2 := by unfold dgetD; rw [hd]; rfl
        refine ret_eq (x := (false, dput s l.1 l.2)) (by rw [if_pos (by simpa using hn), e1, bind_ok, e2]; simp) (ret_if (fun z => nomatch z) fun _ => ret_ok ⟨dkeys_put_nodup hs.nd, by rw [List.length_append]; exact Nat.le_trans dput_len (by show s.length + 1 ≤ pre.length + 1; omega), fun n v h => ?_, fun m hm hmn => ?_⟩)
        · rw [dlook_put] at h
          by_cases q : n = l.1
          · rw [if_pos q] at h; cases h; rw [q]; exact ⟨hn, by simp⟩
          · rw [if_neg q] at h; exact ⟨(hs.fro n v h).1, List.mem_append_left _ (hs.fro n v h).2⟩
        · rw [dlook_put]
          rcases List.mem_append.mp hm with hm | hm
          · have := hs.all m hm hmn
            by_cases q : m.1 = l.1
            · rw [q, hd] at this; cases this
            · rw [if_neg q]; exact this
          · rw [List.mem_singleton.mp hm, if_pos rfl]
  · rw [(List.mergeSort_perm s leSI).mem_iff]
    obtain ⟨n, v⟩ := l
    rw [dkeys_mem hs.nd]
    exact ⟨hs.fro n v, fun ⟨h1, h2⟩ => hs.all (n, v) h2 h1⟩
  · obtain ⟨rfl, h⟩ := ho
    exact ret_ok h
/-! the least clauses, each once, in ascending order -/
theorem least_ok2 {cs : List Cla} (hl : cs.length < 90000) (hc : ∀ c ∈ cs, c.Pairwise fun a b => slt a.1 b.1) : Ret (f_least_clauses cs) fun L => L.Pairwise (fun a b => ltCla a b = true) ∧ ∀ c, c ∈ L ↔ Minl cs c := by
  have pm : (sortLen cs).Perm cs := List.mergeSort_perm ..
  have pw : (sortLen cs).Pairwise fun a b => a.length ≤ b.length := by
    have := List.pairwise_mergeSort (le := fun a b : Cla => decide (a.length ≤ b.length)) (fun a b c h1 h2 => by simp at *; omega) (fun a b => by simp; omega) cs
    exact this.imp fun h => by simpa using h
  have hc' : ∀ c ∈ sortLen cs, c.Nodup := fun c h => cla_nodup (hc c (pm.mem_iff.mp h))
  refine ret_noerr (ret_lt (ret_bind (ret_fold (fun pre (s : List Cla) => s.Sublist pre ∧ (∀ c ∈ pre, ∃ d ∈ s, ∀ l ∈ d, l ∈ c) ∧ s.Pairwise fun a b => ¬ ∀ l ∈ a, l ∈ b) ⟨List.Sublist.refl _, by simp, List.Pairwise.nil⟩ ?_) fun s hs => ret_eq psortB_ok (ret_ok ?_)))
  · rintro pre q post s e ⟨i1, i2, i3⟩
    have hp : pre.length < 90000 := by have a := congrArg List.length e; rw [pm.length_eq] at a; simp at a; omega
    have em : pml (fun q2 : Cla => ((f_contains q q2).bind fun r1 => .ok (some r1) : Res (Option Bool))) s = .ok (s.map fun d => d.all fun l => pin l q) := pml_map fun d _ => by rw [contains_ok, bind_ok]
    refine ret_eq em (ret_if (fun h => ?_) fun h => ret_ok ⟨i1.trans (List.sublist_append_left ..), fun c hcc => ?_, i3⟩)
    · have no : ∀ d ∈ s, ¬ ∀ l ∈ d, l ∈ q := fun d hd z => by
        have : ((s.map fun d => d.all fun l => pin l q).any id) = true := List.any_eq_true.mpr ⟨_, List.mem_map.mpr ⟨d, hd, rfl⟩, List.all_eq_true.mpr fun l hl => pin_iff.mpr (z l hl)⟩
        rw [this] at h; cases h
      refine ret_eq (psnoc_ok (by have := i1.length_le; omega)) (ret_ok ⟨i1.append (List.Sublist.refl [q]), fun c hcc => ?_, List.pairwise_append.mpr ⟨i3, List.pairwise_singleton .., fun a ha b hb => by rw [List.mem_singleton.mp hb]; exact no a ha⟩⟩)
      rcases List.mem_append.mp hcc with h1 | h1
      · obtain ⟨d, hd, hdl⟩ := i2 c h1
        exact ⟨d, List.mem_append_left _ hd, hdl⟩
      · rw [List.mem_singleton.mp h1]; exact ⟨q, by simp, fun _ h => h⟩
    · rcases List.mem_append.mp hcc with h1 | h1
      · exact i2 c h1
      · rw [List.mem_singleton.mp h1]
        have : ((s.map fun d => d.all fun l => pin l q).any id) = true := by simpa using h
        obtain ⟨b, hb, hb2⟩ := List.any_eq_true.mp this
        obtain ⟨d, hd, rfl⟩ := List.mem_map.mp hb
        exact ⟨d, hd, fun l hl => pin_iff.mp (List.all_eq_true.mp hb2 l hl)⟩
  · obtain ⟨i1, i2, i3⟩ := hs
    have lw : s.Pairwise fun a b => a.length ≤ b.length := pw.sublist i1
    have sub : ∀ c ∈ s, c ∈ cs := fun c h => pm.mem_iff.mp (i1.subset h)
    -- none lies in another
    have anti : ∀ a ∈ s, ∀ b ∈ s, (∀ l ∈ a, l ∈ b) → a = b := by
      have both := i3.and lw
      have nd : ∀ c ∈ s, c.Nodup := fun c h => hc' c (i1.subset h)
      clear i1 i2 i3 lw sub
      induction s with
      | nil => simp
      | cons x s ih =>
        obtain ⟨p1, p2⟩ := List.pairwise_cons.mp both
        intro a ha b hb h
        rcases List.mem_cons.mp ha with ea | ha' <;> rcases List.mem_cons.mp hb with eb | hb'
        · rw [ea, eb]
        · subst ea; exact absurd h (p1 b hb').1
        · subst eb
          have q := p1 a ha'
          exact absurd (sub_len (nd a (List.mem_cons_of_mem _ ha')) h (nd b (List.mem_cons_self ..)) q.2) q.1
        · exact ih p2 (fun c h => nd c (List.mem_cons_of_mem _ h)) a ha' b hb' h
    have ndS : s.Nodup := by
      refine i3.imp fun h e => h fun l hl => by rw [← e]; exact hl
    refine ⟨sortB_asc stot_cla ndS, fun c => ?_⟩
    rw [mem_sortB]
    constructor
    · intro h
      refine ⟨sub c h, fun d hd hdc => ?_⟩
      obtain ⟨e, he, hed⟩ := i2 d (pm.mem_iff.mpr hd)
      have ec := anti e he c h fun l hl => hdc l (hed l hl)
      subst ec
      exact cla_ext (hc d hd) (hc e (sub e he)) fun l => ⟨hdc l, hed l⟩
    · rintro ⟨h1, h2⟩
      obtain ⟨e, he, hec⟩ := i2 c (pm.mem_iff.mpr h1)
      rw [← h2 e (sub e he) hec]; exact he
theorem resolvents_ok {cs : List Cla} {name : Str} (hl : cs.length ≤ 250) (hc : ∀ c ∈ cs, c.length ≤ 5) : Ret (f_resolvents cs name) fun R =>
    (∀ r ∈ R, ∃ a ∈ cs, ∃ b ∈ cs, (name, 1) ∈ a ∧ (name, 0) ∈ b ∧ Res1 a b name (some r)) ∧ (∀ a ∈ cs, ∀ b ∈ cs, (name, 1) ∈ a → (name, 0) ∈ b → Clash name (a ++ b) ∨ ∃ r ∈ R, Res1 a b name (some r)) ∧
    R.length ≤ (cs.filter fun c => pin (name, (1 : Int)) c).length * (cs.filter fun c => pin (name, (0 : Int)) c).length := by
  refine ret_noerr (ret_lt (ret_bind (ret_fold (fun pre (s : List Cla) => (∀ r ∈ s, ∃ a ∈ cs, ∃ b ∈ cs, (name, 1) ∈ a ∧ (name, 0) ∈ b ∧ Res1 a b name (some r)) ∧ (∀ a ∈ pre, ∀ b ∈ cs, (name, 1) ∈ a → (name, 0) ∈ b → Clash name (a ++ b) ∨ ∃ r ∈ s, Res1 a b name (some r)) ∧
    s.length ≤ (pre.filter fun c => pin (name, (1 : Int)) c).length * (cs.filter fun c => pin (name, (0 : Int)) c).length) ⟨by simp, by simp, by simp⟩ ?_) fun s hs => ret_ok hs))
  rintro pre a post s e ⟨i1, i2, i3⟩
  have ha : a ∈ cs := by rw [e]; simp
  have hp : (pre.filter fun c => pin (name, (1 : Int)) c).length ≤ 250 := by
    have := List.length_filter_le (fun c => pin (name, (1 : Int)) c) pre
    have := congrArg List.length e
    simp at this; omega
  have hz : (cs.filter fun c => pin (name, (0 : Int)) c).length ≤ 250 := by have := List.length_filter_le (fun c => pin (name, (0 : Int)) c) cs; omega
  have hs64 : s.length ≤ 62500 := Nat.le_trans i3 (Nat.mul_le_mul hp hz)
  refine ret_if (fun h => ?_) fun h => ret_ok ⟨i1, fun x hx b hb h1 h0 => ?_, ?_⟩
  · have h1 : (name, 1) ∈ a := pin_iff.mp h
    refine ret_bind (ret_fold (fun pre' (s' : List Cla) => (∀ r ∈ s', ∃ a ∈ cs, ∃ b ∈ cs, (name, 1) ∈ a ∧ (name, 0) ∈ b ∧ Res1 a b name (some r)) ∧ (∀ r ∈ s, r ∈ s') ∧ (∀ b ∈ pre', (name, 0) ∈ b → Clash name (a ++ b) ∨ ∃ r ∈ s', Res1 a b name (some r)) ∧
      s'.length ≤ s.length + (pre'.filter fun c => pin (name, (0 : Int)) c).length) ⟨i1, fun _ h => h, by simp, by simp⟩ ?_) fun s' hs' => ret_ok ⟨hs'.1, fun x hx b hb q1 q0 => ?_, ?_⟩
    · rintro pre' b post' s' e' ⟨j1, j2, j3, j4⟩
      have hb : b ∈ cs := by rw [e']; simp
      have hp' : (pre'.filter fun c => pin (name, (0 : Int)) c).length ≤ 250 := by
        have := List.length_filter_le (fun c => pin (name, (0 : Int)) c) pre'
        have := congrArg List.length e'
        simp at this; omega
      by_cases h0 : pin (name, (0 : Int)) b = true
      · have h0' : (name, 0) ∈ b := pin_iff.mp h0
        obtain ⟨o, eo, ho⟩ := resolvent_ok (a := a) (b := b) (name := name) (by have := hc a ha; have := hc b hb; omega)
        refine ret_eq (x := (o, ())) (by rw [if_pos h0, eo, bind_ok]) (ret_lt ?_)
        have fl : ((pre' ++ [b]).filter fun c => pin (name, (0 : Int)) c).length = (pre'.filter fun c => pin (name, (0 : Int)) c).length + 1 := by
          rw [List.filter_append, List.length_append, List.filter_cons, if_pos h0]; rfl
        cases o with
        | none =>
          refine ret_if (fun z => nomatch z) fun _ => ret_ok ⟨j1, j2, fun x hx q0 => ?_, by rw [fl]; omega⟩
          rcases List.mem_append.mp hx with hx | hx
          · exact j3 x hx q0
          · rw [List.mem_singleton.mp hx]; exact .inl ho
        | some r =>
          refine ret_if (fun _ => ret_eq (x := r) rfl (ret_eq (psnoc_ok (by omega)) (ret_ok ⟨fun x hx => ?_, fun x hx => List.mem_append_left _ (j2 x hx), fun x hx q0 => ?_, by rw [fl, List.length_append]; show s'.length + 1 ≤ _; omega⟩))) fun z => absurd rfl z
          · rcases List.mem_append.mp hx with hx | hx
            · exact j1 x hx
            · rw [List.mem_singleton.mp hx]; exact ⟨a, ha, b, hb, h1, h0', ho⟩
          · rcases List.mem_append.mp hx with hx | hx
            · exact (j3 x hx q0).imp id fun ⟨r, h, q⟩ => ⟨r, List.mem_append_left _ h, q⟩
            · rw [List.mem_singleton.mp hx]; exact .inr ⟨r, by simp, ho⟩
      · have fl : ((pre' ++ [b]).filter fun c => pin (name, (0 : Int)) c).length = (pre'.filter fun c => pin (name, (0 : Int)) c).length := by
          rw [List.filter_append, List.length_append, List.filter_cons, if_neg h0]; rfl
        refine ret_eq (x := (none, ())) (by rw [if_neg h0]) (ret_lt (ret_if (fun z => nomatch z) fun _ => ret_ok ⟨j1, j2, fun x hx q0 => ?_, by rw [fl]; exact j4⟩))
        rcases List.mem_append.mp hx with hx | hx
        · exact j3 x hx q0
        · rw [List.mem_singleton.mp hx] at q0; exact absurd (pin_iff.mpr q0) h0
    · rcases List.mem_append.mp hx with hx | hx
      · exact (i2 x hx b hb q1 q0).imp id fun ⟨r, h, q⟩ => ⟨r, hs'.2.1 r h, q⟩
      · rw [List.mem_singleton.mp hx]; exact hs'.2.2.1 b hb q0
    · have fl : ((pre ++ [a]).filter fun c => pin (name, (1 : Int)) c).length = (pre.filter fun c => pin (name, (1 : Int)) c).length + 1 := by
        rw [List.filter_append, List.length_append, List.filter_cons, if_pos h]; rfl
      rw [fl, Nat.add_mul, Nat.one_mul]
      exact Nat.le_trans hs'.2.2.2 (Nat.add_le_add_right i3 _)
  · rcases List.mem_append.mp hx with hx | hx
    · exact i2 x hx b hb h1 h0
    · rw [List.mem_singleton.mp hx] at h1; exact absurd (pin_iff.mpr h1) h
  · have fl : ((pre ++ [a]).filter fun c => pin (name, (1 : Int)) c).length = (pre.filter fun c => pin (name, (1 : Int)) c).length := by
      rw [List.filter_append, List.length_append, List.filter_cons, if_neg h]; rfl
    rw [fl]; exact i3
/-! ### what holds, what follows -/
def Tr (α : Str → Int) (c : Cla) : Prop := ∃ l ∈ c, α l.1 = l.2
def B01 (α : Str → Int) : Prop := ∀ n, α n = 0 ∨ α n = 1
def Sol (cs : List Cla) (α : Str → Int) : Prop := ∀ c ∈ cs, Tr α c
def Fol (cs : List Cla) (c : Cla) : Prop := ∀ α, B01 α → Sol cs α → Tr α c
theorem tr_mono {α : Str → Int} {c d : Cla} (h : ∀ l ∈ d, l ∈ c) (t : Tr α d) : Tr α c := let ⟨l, h1, h2⟩ := t; ⟨l, h l h1, h2⟩
theorem fol_mono {cs : List Cla} {c d : Cla} (h : ∀ l ∈ d, l ∈ c) (t : Fol cs d) : Fol cs c := fun α b s => tr_mono h (t α b s)
/-! ### all clauses over names -/
theorem cv_nil {ns : List Str} : CV ns [] := ⟨List.Pairwise.nil, by simp⟩
theorem cv_snoc {pre : List Str} {n : Str} (ha : ∀ m ∈ pre, slt m n) {c : Cla} : CV (pre ++ [n]) c ↔ CV pre c ∨ ∃ c' v, CV pre c' ∧ (v = 0 ∨ v = 1) ∧ c = c' ++ [(n, v)] := by
  constructor
  · rintro ⟨h1, h2⟩
    rcases List.eq_nil_or_concat c with rfl | ⟨c', l, rfl⟩
    · exact .inl cv_nil
    · rw [List.concat_eq_append] at h1 h2 ⊢
      obtain ⟨p1, _, p3⟩ := List.pairwise_append.mp h1
      have hl := h2 l (by simp)
      have p3' : ∀ x ∈ c', slt x.1 l.1 := fun x hx => p3 x hx l (by simp)
      have hx : ∀ x ∈ c', x.1 ∈ pre := fun x hx => by
        have := (h2 x (List.mem_append_left _ hx)).1
        rcases List.mem_append.mp this with h | h
        · exact h
        · have e : x.1 = n := by simpa using h
          have q := p3' x hx
          rw [e] at q
          rcases List.mem_append.mp hl.1 with h' | h'
          · exact absurd (slt_trans q (ha _ h')) (slt_irrefl _)
          · have : l.1 = n := by simpa using h'
            rw [this] at q; exact absurd q (slt_irrefl _)
      rcases List.mem_append.mp hl.1 with h' | h'
      · refine .inl ⟨h1, fun x hx' => ⟨?_, (h2 x hx').2⟩⟩
        rcases List.mem_append.mp hx' with h | h
        · exact hx x h
        · rw [List.mem_singleton.mp h]; exact h'
      · have e : l.1 = n := by simpa using h'
        exact .inr ⟨c', l.2, ⟨p1, fun x hx' => ⟨hx x hx', (h2 x (List.mem_append_left _ hx')).2⟩⟩, hl.2, by rw [← e]⟩
  · rintro (⟨h1, h2⟩ | ⟨c', v, ⟨h1, h2⟩, hv, rfl⟩)
    · exact ⟨h1, fun l hl => ⟨List.mem_append_left _ (h2 l hl).1, (h2 l hl).2⟩⟩
    · refine ⟨List.pairwise_append.mpr ⟨h1, List.pairwise_singleton .., fun a ha' b hb => ?_⟩, fun l hl => ?_⟩
      · rw [List.mem_singleton.mp hb]; exact ha _ (h2 a ha').1
      · rcases List.mem_append.mp hl with h | h
        · exact ⟨List.mem_append_left _ (h2 l h).1, (h2 l h).2⟩
        · rw [List.mem_singleton.mp h]; exact ⟨by simp, hv⟩
theorem asc_snoc {pre post : List Str} {n : Str} (h : Asc (pre ++ n :: post)) : ∀ m ∈ pre, slt m n := fun m hm => (List.pairwise_append.mp h).2.2 m hm n (List.mem_cons_self ..)
theorem cv_len4 {ns : List Str} {c : Cla} (h : CV ns c) (hl : ns.length ≤ 5) : c.length ≤ 5 := cv_len h hl
/-- all clauses over names -/
def allC : List Str → List Cla
  | [] => [[]]
  | n :: ns => (allC ns).flatMap fun c => [c, (n, 0) :: c, (n, 1) :: c]
theorem allC_len : ∀ ns : List Str, (allC ns).length = 3 ^ ns.length
  | [] => rfl
  | n :: ns => by
    have h : ∀ xs : List Cla, (xs.flatMap fun c => [c, (n, (0 : Int)) :: c, (n, 1) :: c]).length = 3 * xs.length := fun xs => by
      induction xs with
      | nil => rfl
      | cons x xs ih => rw [List.flatMap_cons, List.length_append, ih, List.length_cons]; simp; omega
    rw [allC, h, allC_len ns, List.length_cons, Nat.pow_succ]; omega
theorem allC_mem : ∀ {ns : List Str} {c : Cla}, Asc ns → CV ns c → c ∈ allC ns
  | [], c, _, h => by
    cases c with
    | nil => exact List.mem_singleton.mpr rfl
    | cons l c => have := (h.2 l (List.mem_cons_self ..)).1; simp at this
  | n :: ns, c, ha, h => by
    have ha' : Asc ns := (List.pairwise_cons.mp ha).2
    have low : ∀ m ∈ ns, slt n m := (List.pairwise_cons.mp ha).1
    rw [allC, List.mem_flatMap]
    cases c with
    | nil => exact ⟨[], allC_mem ha' ⟨List.Pairwise.nil, by simp⟩, by simp⟩
    | cons l c =>
      obtain ⟨p1, p2⟩ := List.pairwise_cons.mp h.1
      have hl := h.2 l (List.mem_cons_self ..)
      by_cases e : l.1 = n
      · refine ⟨c, allC_mem ha' ⟨p2, fun m hm => ?_⟩, ?_⟩
        · have := h.2 m (List.mem_cons_of_mem _ hm)
          refine ⟨(List.mem_cons.mp this.1).resolve_left fun z => ?_, this.2⟩
          have q := p1 m hm
          rw [e, z] at q
          exact slt_irrefl _ q
        · rcases hl.2 with v | v
          · have : l = (n, 0) := Prod.ext e v
            rw [this]; simp
          · have : l = (n, 1) := Prod.ext e v
            rw [this]; simp
      · have hl' : l.1 ∈ ns := (List.mem_cons.mp hl.1).resolve_left e
        refine ⟨l :: c, allC_mem ha' ⟨h.1, fun m hm => ?_⟩, by simp⟩
        have hm' := h.2 m hm
        refine ⟨(List.mem_cons.mp hm'.1).resolve_left fun z => ?_, hm'.2⟩
        rcases List.mem_cons.mp hm with q | q
        · exact e (q ▸ z)
        · have q := slt_trans (low _ hl') (p1 m q)
          rw [z] at q
          exact slt_irrefl _ q
/-- so many there are at most -/
theorem cv_cnt {ns : List Str} {S : List Cla} (ha : Asc ns) (nd : S.Nodup) (h : ∀ c ∈ S, CV ns c) : S.length ≤ 3 ^ ns.length := by
  have := nodup_le nd fun c hc => allC_mem ha (h c hc)
  exact allC_len ns ▸ this
theorem cv_count {ns : List Str} {S : List Cla} (ha : Asc ns) (hl : ns.length ≤ 5) (nd : S.Nodup) (h : ∀ c ∈ S, CV ns c) : S.length ≤ 243 :=
  Nat.le_trans (cv_cnt ha nd h) (Nat.pow_le_pow_right (n := 3) (i := ns.length) (j := 5) (by omega) hl)
theorem cv_count4 {ns : List Str} {S : List Cla} (ha : Asc ns) (hl : ns.length ≤ 4) (nd : S.Nodup) (h : ∀ c ∈ S, CV ns c) : S.length ≤ 81 :=
  Nat.le_trans (cv_cnt ha nd h) (Nat.pow_le_pow_right (n := 3) (i := ns.length) (j := 4) (by omega) hl)
theorem minl_ex {cs : List Cla} (hc : ∀ c ∈ cs, c.Pairwise fun a b => slt a.1 b.1) : ∀ (k : Nat) (c : Cla), c ∈ cs → c.length ≤ k → ∃ d, Minl cs d ∧ ∀ l ∈ d, l ∈ c := by
  intro k
  induction k with
  | zero =>
    intro c h hk
    have : c = [] := List.length_eq_zero_iff.mp (Nat.le_zero.mp hk)
    subst this
    exact ⟨[], ⟨h, fun d _ hd => by
      cases d with
      | nil => rfl
      | cons a r => have := hd a (List.mem_cons_self ..); simp at this⟩, fun _ h => h⟩
  | succ k ih =>
    intro c h hk
    by_cases m : Minl cs c
    · exact ⟨c, m, fun _ h => h⟩
    · obtain ⟨d, hd, hdc, ne⟩ : ∃ d ∈ cs, (∀ l ∈ d, l ∈ c) ∧ d ≠ c := Classical.byContradiction fun z => m ⟨h, fun d hd hdc => Classical.byContradiction fun ne => z ⟨d, hd, hdc, ne⟩⟩
      have lt : d.length < c.length := Classical.byContradiction fun z => ne (cla_ext (hc d hd) (hc c h) fun l => ⟨hdc l, sub_len (cla_nodup (hc d hd)) hdc (cla_nodup (hc c h)) (by omega) l⟩)
      obtain ⟨e, he, hed⟩ := ih d hd (by omega)
      exact ⟨e, he, fun l hl => hdc l (hed l hl)⟩
def upA (α : Str → Int) (y : Str) (v : Int) : Str → Int := fun n => if n = y then v else α n
theorem upA_b {α : Str → Int} {y : Str} {v : Int} (h : B01 α) (hv : v = 0 ∨ v = 1) : B01 (upA α y v) := fun n => by
  unfold upA
  by_cases e : n = y
  · rw [if_pos e]; exact hv
  · rw [if_neg e]; exact h n
theorem upA_ne {α : Str → Int} {y n : Str} {v : Int} (h : n ≠ y) : upA α y v n = α n := if_neg h
theorem upA_eq {α : Str → Int} {y : Str} {v : Int} : upA α y v y = v := if_pos rfl
theorem res_fol {cs : List Cla} {a b r : Cla} {y : Str} (ha : Fol cs a) (hb : Fol cs b) (ua : a.Pairwise fun x y => slt x.1 y.1) (ub : b.Pairwise fun x y => slt x.1 y.1) (ma : (y, 1) ∈ a) (mb : (y, 0) ∈ b) (h : Res1 a b y (some r)) : Fol cs r := by
  intro α b01 s
  obtain ⟨l, hl, hl2⟩ := ha α b01 s
  obtain ⟨m, hm, hm2⟩ := hb α b01 s
  by_cases e : l.1 = y
  · by_cases e' : m.1 = y
    · have q1 := uniq ua hl ma e
      have q2 := uniq ub hm mb e'
      rw [q1] at hl2; rw [q2] at hm2
      have hl2 : α y = 1 := hl2
      have hm2 : α y = 0 := hm2
      omega
    · exact ⟨m, (h.2 m).mpr ⟨e', List.mem_append_right _ hm⟩, hm2⟩
  · exact ⟨l, (h.2 l).mpr ⟨e, List.mem_append_left _ hl⟩, hl2⟩
theorem res_cv {ns : List Str} {a b r : Cla} {y : Str} (ha : CV ns a) (hb : CV ns b) (h : Res1 a b y (some r)) : CV ns r := ⟨h.1, fun l hl => (List.mem_append.mp ((h.2 l).mp hl).2).elim (ha.2 l) (hb.2 l)⟩
theorem cv_sub {ns : List Str} {a b : Cla} (h : CV ns b) (s : a.Sublist b) : CV ns a := ⟨h.1.sublist s, fun l hl => h.2 l (s.subset hl)⟩
/-! ### what is left of a clause -/
/-! ### a cut -/
def Dn (y : Str) (S : List Cla) (a b : Cla) : Prop := Clash y (a ++ b) ∨ ∃ k ∈ S, ∀ l ∈ k, l.1 ≠ y ∧ (l ∈ a ∨ l ∈ b)
theorem Dn.up {y : Str} {S S' : List Cla} {a b : Cla} (h : ∀ k ∈ S, k ∈ S') (d : Dn y S a b) : Dn y S' a b := d.imp id fun ⟨k, h1, h2⟩ => ⟨k, h k h1, h2⟩
theorem dp_back {ns : List Str} {c : Cla} {S S' : List Cla} {y : Str} (hS : ∀ a ∈ S, CV ns a ∧ ∀ l ∈ a, ∀ m ∈ c, l.1 ≠ m.1) (h1 : ∀ a ∈ S, (y, 0) ∉ a → (y, 1) ∉ a → ∃ k ∈ S', ∀ l ∈ k, l ∈ a)
    (h2 : ∀ a ∈ S, ∀ b ∈ S, (y, 1) ∈ a → (y, 0) ∈ b → Dn y S' a b) {α : Str → Int} (b01 : B01 α) (n : ¬ Tr α c) (s : Sol S' α) : ∃ v, (v = 0 ∨ v = 1) ∧ ¬ Tr (upA α y v) c ∧ Sol S (upA α y v) := by
  by_cases hy : ∃ m ∈ c, m.1 = y
  · obtain ⟨m, hm, rfl⟩ := hy
    have e : upA α m.1 (α m.1) = α := funext fun z => by
      by_cases q : z = m.1
      · rw [q, upA_eq]
      · exact upA_ne q
    refine ⟨α m.1, b01 _, e.symm ▸ n, fun a ha => ?_⟩
    rw [e]
    obtain ⟨k, hk, ka⟩ := h1 a ha (fun z => (hS a ha).2 _ z m hm rfl) (fun z => (hS a ha).2 _ z m hm rfl)
    exact tr_mono ka (s k hk)
  · have nc : ∀ v, ¬ Tr (upA α y v) c := fun v ⟨l, hl, e⟩ => n ⟨l, hl, by rw [upA_ne fun z => hy ⟨l, hl, z⟩] at e; exact e⟩
    -- a literal of another name keeps its value
    have keep : ∀ {v : Int} {a : Cla} {l : Lit}, l ∈ a → l.1 ≠ y → α l.1 = l.2 → Tr (upA α y v) a := fun hl ne e => ⟨_, hl, by rw [upA_ne ne]; exact e⟩
    have has : ∀ {v : Int} {a : Cla}, (v = 0 ∨ v = 1) → a ∈ S → ¬ Tr (upA α y v) a → (y, 1 - v) ∈ a := fun {v a} hv ha nt => Classical.byContradiction fun z => by
      have z' : (y, v) ∉ a := fun h => nt ⟨_, h, upA_eq⟩
      have none : ∀ l ∈ a, l.1 ≠ y := fun l hl e => by
        have v2 := ((hS a ha).1.2 l hl).2
        by_cases q : l.2 = v
        · exact z' ((Prod.ext e q : l = (y, v)) ▸ hl)
        · exact z ((Prod.ext e (by show l.2 = 1 - v; omega) : l = (y, 1 - v)) ▸ hl)
      obtain ⟨k, hk, ka⟩ := h1 a ha (fun h => none _ h rfl) (fun h => none _ h rfl)
      obtain ⟨l, hl, e⟩ := s k hk
      exact nt (keep (ka l hl) (none l (ka l hl)) e)
    refine Classical.byContradiction fun no => ?_
    have all : ∀ v : Int, (v = 0 ∨ v = 1) → ∃ a ∈ S, ¬ Tr (upA α y v) a := fun v hv => Classical.byContradiction fun z => no ⟨v, hv, nc v, fun a ha => Classical.byContradiction fun w => z ⟨a, ha, w⟩⟩
    obtain ⟨a, ha, ta⟩ := all 0 (.inl rfl)
    obtain ⟨b, hb, tb⟩ := all 1 (.inr rfl)
    have bad : ∀ l : Lit, l.1 ≠ y → (l ∈ a ∨ l ∈ b) → α l.1 ≠ l.2 := fun l ne h e => h.elim (fun h => ta (keep h ne e)) fun h => tb (keep h ne e)
    rcases h2 a ha b hb (has (.inl rfl) ha ta) (has (.inr rfl) hb tb) with ⟨l, hl, m, hm, e1, e2, e3⟩ | ⟨k, hk, hl⟩
    · have q1 := bad l e2 (List.mem_append.mp hl)
      have q2 := bad m (e1 ▸ e2) (List.mem_append.mp hm)
      have vl : l.2 = 0 ∨ l.2 = 1 := (List.mem_append.mp hl).elim (fun h => ((hS a ha).1.2 l h).2) fun h => ((hS b hb).1.2 l h).2
      have vm : m.2 = 0 ∨ m.2 = 1 := (List.mem_append.mp hm).elim (fun h => ((hS a ha).1.2 m h).2) fun h => ((hS b hb).1.2 m h).2
      rw [← e1] at q2
      have := b01 l.1
      omega
    · obtain ⟨l, h, e⟩ := s k hk
      exact bad l (hl l h).1 (hl l h).2 e
theorem last_at {α : Type} {xs : List α} {x : α} (h : xs.getLast? = some x) : xs[xs.length - 1]? = some x := by rw [← List.getLast?_eq_getElem?]; exact h
theorem keys_len {κ α : Type} (d : List (κ × α)) : d.length = (dkeys d).length := by unfold dkeys; rw [List.length_map]
theorem pidx_last {α : Type} {xs : List α} {x : α} (h : xs.getLast? = some x) : pidx xs (-(1 : Int)) = .ok x := by
  have ne : xs ≠ [] := fun z => by rw [z] at h; cases h
  have hl : 0 < xs.length := List.length_pos_iff.mpr ne
  have e : atI xs (-(1 : Int)) = xs[xs.length - 1]? := by
    unfold atI ixN
    rw [if_neg (by omega), if_pos (by omega)]
    show xs[_]? = _
    congr 1
    omega
  unfold pidx
  rw [e, last_at h]
/-! ### solving -/
abbrev Th := List Str × List Cla
theorem elim_step {ns ms : List Str} {cs : List Cla} {y : Str} (ha : Asc ns) (h4 : ns.length ≤ 5) (m4 : ms.length ≤ 4) (hms : ∀ n, n ∈ ms ↔ n ∈ ns ∧ n ≠ y) (am : Asc ms) (hl : cs.length ≤ 250) (hcs : ∀ c ∈ cs, CV ns c) :
    Ret (f_eliminate_name cs y) fun E => (∀ c ∈ E, CV ms c) ∧ E.length ≤ 81 ∧ (∀ α, B01 α → Sol E α → ∃ v, (v = 0 ∨ v = 1) ∧ Sol cs (upA α y v)) ∧ ∀ α, B01 α → Sol cs α → Sol E α := by
  refine ret_noerr (ret_ltE fun o ho => ret_bind (resolvents_ok (by omega) fun c hc => Nat.le_trans (cv_len4 (hcs c hc) h4) (by omega)) fun R ⟨r1, r2, r3⟩ => ?_)
  rw [List.map_id'] at ho
  have hol : o.length ≤ 250 := by rw [ho]; exact Nat.le_trans (List.length_filter_le ..) hl
  have hRl : R.length ≤ 62500 := Nat.le_trans r3 (Nat.mul_le_mul (Nat.le_trans (List.length_filter_le ..) hl) (Nat.le_trans (List.length_filter_le ..) hl))
  have mo : ∀ c, c ∈ o ↔ c ∈ cs ∧ (y, 0) ∉ c ∧ (y, 1) ∉ c := fun c => by
    rw [ho, List.mem_filter]
    simp only [Bool.and_eq_true, Bool.not_eq_true', ← Bool.not_eq_true, pin_iff]
  have cvo : ∀ c ∈ o, CV ms c := fun c hc => by
    obtain ⟨h1, h2, h3⟩ := (mo c).mp hc
    refine ⟨(hcs c h1).1, fun l hl => ⟨(hms _).mpr ⟨((hcs c h1).2 l hl).1, fun e => ?_⟩, ((hcs c h1).2 l hl).2⟩⟩
    rcases ((hcs c h1).2 l hl).2 with v | v
    · exact h2 ((Prod.ext e v : l = (y, 0)) ▸ hl)
    · exact h3 ((Prod.ext e v : l = (y, 1)) ▸ hl)
  have cvR : ∀ c ∈ R, CV ms c := fun c hc => by
    obtain ⟨a, hA, b, hB, _, _, rr⟩ := r1 c hc
    refine ⟨rr.1, fun l hl => ?_⟩
    obtain ⟨h1, h2⟩ := (rr.2 l).mp hl
    have := (List.mem_append.mp h2).elim (fun h => (hcs a hA).2 l h) fun h => (hcs b hB).2 l h
    exact ⟨(hms _).mpr ⟨this.1, h1⟩, this.2⟩
  have cv : ∀ c ∈ o ++ R, CV ms c := fun c hc => (List.mem_append.mp hc).elim (cvo c) (cvR c)
  have ef : pfit (o ++ R) = .ok (o ++ R) := if_pos (by rw [List.length_append]; omega)
  refine ret_eq ef (ret_bind (least_ok2 (by rw [List.length_append]; omega) fun c hc => (cv c hc).1) fun E hE => ret_ok ?_)
  have low : ∀ k ∈ o ++ R, ∃ k' ∈ E, ∀ l ∈ k', l ∈ k := fun k hk => by
    obtain ⟨d, hd, hl⟩ := minl_ex (fun k hk => (cv k hk).1) k.length k hk (Nat.le_refl _)
    exact ⟨d, (hE.2 d).mpr hd, hl⟩
  have cvE : ∀ c ∈ E, CV ms c := fun c hc => cv c ((hE.2 c).mp hc).1
  refine ⟨cvE, cv_count4 am m4 (asc_nodup stot_cla hE.1) cvE, fun α b s => ?_, fun α b s c hc => ?_⟩
  · obtain ⟨v, hv, _, h⟩ := dp_back (ns := ns) (c := []) (S := cs) (S' := E) (y := y) (fun a hA => ⟨hcs a hA, fun l _ m hm => nomatch hm⟩) (fun a hA h0 h1 => low a (List.mem_append_left _ ((mo a).mpr ⟨hA, h0, h1⟩)))
      (fun a hA b hB q1 q0 => (r2 a hA b hB q1 q0).imp id fun ⟨r, hr, rr⟩ => by
        obtain ⟨k, h1, h2⟩ := low r (List.mem_append_right _ hr)
        exact ⟨k, h1, fun l hl => by have := (rr.2 l).mp (h2 l hl); exact ⟨this.1, List.mem_append.mp this.2⟩⟩) b (fun ⟨l, h, _⟩ => nomatch h) s
    exact ⟨v, hv, h⟩
  · rcases List.mem_append.mp ((hE.2 c).mp hc).1 with h | h
    · exact s c ((mo c).mp h).1
    · obtain ⟨a, hA, b', hB, q1, q0, rr⟩ := r1 c h
      exact res_fol (fun α _ s => s a hA) (fun α _ s => s b' hB) (hcs a hA).1 (hcs b' hB).1 q1 q0 rr α b s
structure EL (ns : List Str) (ts : List Th) (m : Nat) : Prop where
  len : ts.length = m + 1
  cv : ∀ (j : Nat) t, ts[j]? = some t → (∀ c ∈ t.2, CV (ns.take (ns.length - j)) c) ∧ t.2.length ≤ 250
  back : ∀ (j : Nat) t t' y, ts[j]? = some t → ts[j + 1]? = some t' → ns[ns.length - 1 - j]? = some y → ∀ α, B01 α → Sol t'.2 α → ∃ v, (v = 0 ∨ v = 1) ∧ Sol t.2 (upA α y v)
  fwd : ∀ (j : Nat) t t', ts[j]? = some t → ts[j + 1]? = some t' → ∀ α, B01 α → Sol t.2 α → Sol t'.2 α
theorem take_asc {ns : List Str} (ha : Asc ns) (k : Nat) : Asc (ns.take k) := List.Pairwise.sublist (List.take_sublist ..) ha
theorem eliminated_ok {ns : List Str} {cs : List Cla} (ha : Asc ns) (h4 : ns.length ≤ 5) (hl : cs.length ≤ 250) (hcs : ∀ c ∈ cs, CV ns c) : Ret (f_eliminated () (ns, cs) ns) fun ts => EL ns ts ns.length ∧ ts[0]? = some (ns, cs) := by
  refine ret_noerr (ret_lt (ret_bind (ret_fold (fun pre (ts : List Th) => EL ns ts pre.length ∧ ts[0]? = some (ns, cs)) ⟨⟨rfl, fun j t h => ?_, fun j t t' y h h' => ?_, fun j t t' h h' => ?_⟩, rfl⟩ ?_) fun ts h => ret_ok (by rw [List.length_reverse] at h; exact h)))
  · cases j with
    | zero => cases h; exact ⟨by simpa using hcs, hl⟩
    | succ j => simp at h
  · simp at h'
  · simp at h'
  · rintro pre y post ts e ⟨⟨i1, i2, i3, i4⟩, i5⟩
    have hp : pre.length < ns.length := by have := congrArg List.length e; simp at this; omega
    have hy : ns[ns.length - 1 - pre.length]? = some y := by
      have : ns.reverse[pre.length]? = some y := by rw [e]; simp
      rwa [List.getElem?_reverse hp] at this
    obtain ⟨t, ht⟩ : ∃ t, ts[pre.length]? = some t := ⟨_, List.getElem?_eq_getElem (by omega)⟩
    have hlast : ts.getLast? = some t := by rw [List.getLast?_eq_getElem?, i1]; exact ht
    obtain ⟨c1, c2⟩ := i2 _ t ht
    have hy2 := List.getElem?_eq_some_iff.mp hy
    have tk : ns.take (ns.length - pre.length) = ns.take (ns.length - (pre.length + 1)) ++ [y] := by
      have e1 : ns.length - pre.length = ns.length - (pre.length + 1) + 1 := by omega
      rw [e1, List.take_add_one, show ns.length - (pre.length + 1) = ns.length - 1 - pre.length by omega, hy]; rfl
    have up := take_asc ha (ns.length - pre.length)
    have hms : ∀ n, n ∈ ns.take (ns.length - (pre.length + 1)) ↔ n ∈ ns.take (ns.length - pre.length) ∧ n ≠ y := fun n => by
      rw [tk] at up ⊢
      rw [List.mem_append, List.mem_singleton]
      constructor
      · exact fun h => ⟨.inl h, fun z => slt_irrefl y (asc_snoc up y (z ▸ h))⟩
      · exact fun ⟨h, n⟩ => h.resolve_right n
    refine ret_eq (pidx_last hlast) (ret_bind (P := fun t' : Th => (∀ c ∈ t'.2, CV (ns.take (ns.length - (pre.length + 1))) c) ∧ t'.2.length ≤ 81 ∧ (∀ α, B01 α → Sol t'.2 α → ∃ v, (v = 0 ∨ v = 1) ∧ Sol t.2 (upA α y v)) ∧ ∀ α, B01 α → Sol t.2 α → Sol t'.2 α) ?_ fun t' ht' => ret_eq (psnoc_ok (by omega)) (ret_ok ?_))
    · exact ret_noerr (ret_bind (elim_step (ns := ns.take (ns.length - pre.length)) (ms := ns.take (ns.length - (pre.length + 1))) up (by rw [List.length_take]; omega) (by rw [List.length_take]; omega) hms (take_asc ha _) c2 c1) fun E hE => ret_ok hE)
    · have cases_ : ∀ {j : Nat} {u : Th}, (ts ++ [t'])[j]? = some u → ts[j]? = some u ∨ j = pre.length + 1 ∧ u = t' := fun {j u} h => by
        by_cases z : j < ts.length
        · rw [List.getElem?_append_left z] at h; exact .inl h
        · have := (List.getElem?_eq_some_iff.mp h).1
          simp at this
          have ej : j = pre.length + 1 := by omega
          subst ej
          rw [List.getElem?_append_right (by omega), show pre.length + 1 - ts.length = 0 by omega] at h
          cases h
          exact .inr ⟨rfl, rfl⟩
      refine ⟨⟨by simp [i1], fun j u h => ?_, fun j u u' z h h' hz => ?_, fun j u u' h h' => ?_⟩, by rw [List.getElem?_append_left (by omega)]; exact i5⟩
      · rcases cases_ h with h | ⟨rfl, rfl⟩
        · exact i2 j u h
        · exact ⟨ht'.1, by omega⟩
      · rcases cases_ h' with h2 | ⟨e2, rfl⟩
        · rcases cases_ h with h | ⟨e1, _⟩
          · exact i3 j u u' z h h2 hz
          · have := (List.getElem?_eq_some_iff.mp h2).1; omega
        · have ej : j = pre.length := by omega
          subst ej
          rcases cases_ h with h | ⟨e1, _⟩
          · rw [ht] at h; cases h
            rw [hy] at hz; cases hz
            exact ht'.2.2.1
          · omega
      · rcases cases_ h' with h2 | ⟨e2, rfl⟩
        · rcases cases_ h with h | ⟨e1, _⟩
          · exact i4 j u u' h h2
          · have := (List.getElem?_eq_some_iff.mp h2).1; omega
        · have ej : j = pre.length := by omega
          subst ej
          rcases cases_ h with h | ⟨e1, _⟩
          · rw [ht] at h; cases h
            exact ht'.2.2.2
          · omega
def pvv (cs : List Cla) (g : Dict) (name : Str) (v : Int) : Bool := cs.all (hv (g ++ [(name, v)]))
theorem bholds_ok {d : Dict} {c : Cla} (h : ∀ l ∈ c, l.1 ∈ dkeys d) : f_Bits_holds () c d = .ok (hv d c) := by
  unfold f_Bits_holds
  rw [pany fun l : Lit => decide (vl d l.1 = l.2)]
  · rfl
  · intro l hl
    rw [pdget_vl (h l hl), bind_ok]
    cases decide (vl d l.1 = l.2) <;> rfl
theorem sat_ok {d : Dict} {t : List Str × List Cla} (h : Kn d t.2) : f_satisfies () t d = .ok (t.2.all (hv d)) := by
  unfold f_satisfies
  rw [pall (hv d)]
  · rfl
  · intro c hc
    rw [bholds_ok (h c hc), bind_ok]
    cases hv d c <;> rfl
theorem lift_ok {t : Th} {name : Str} {g : Dict} (ndg : (dkeys g).Nodup) (hn : name ∉ dkeys g) (hgl : g.length ≤ 5) (kn : ∀ v, Kn (g ++ [(name, v)]) t.2) :
    f_Bits_lift () t name g = if pvv t.2 g name 0 = true then .ok 0 else if pvv t.2 g name 1 = true then .ok 1 else .err ⟨3, .no⟩ := by
  have st : ∀ v : Int, pdstar g name v = .ok (g ++ [(name, v)]) := fun v => by
    unfold pdstar
    rw [if_pos (by omega), dcopy_ok ndg, dput_new hn]
  have sat : ∀ v : Int, f_satisfies () t (g ++ [(name, v)]) = .ok (pvv t.2 g name v) := fun v => sat_ok (kn v)
  unfold f_Bits_lift
  show (pfor _ () [(0 : Int), (1 : Int)]).thn _ _ = _
  rw [pfor, st, bind_ok, sat, bind_ok]
  cases pvv t.2 g name 0 with
  | true => rfl
  | false =>
    rw [if_neg Bool.false_ne_true, if_neg Bool.false_ne_true, bind_ok, pnext]
    rw [pfor, st, bind_ok, sat, bind_ok]
    cases pvv t.2 g name 1 <;> rfl
theorem pvv_iff {cs : List Cla} {g : Dict} {y : Str} {v : Int} (hn : y ∉ dkeys g) : pvv cs g y v = true ↔ Sol cs (upA (vl g) y v) := by
  have e : ∀ c, hv (g ++ [(y, v)]) c = true ↔ Tr (upA (vl g) y v) c := fun c => by
    rw [hv_iff]
    exact exists_congr fun l => and_congr_right fun _ => by rw [vl_app hn]; rfl
  unfold pvv
  rw [List.all_eq_true]
  exact forall_congr' fun c => imp_congr_right fun _ => e c
theorem vl_b {ns : List Str} {d : Dict} (h : Asg ns d) : B01 (vl d) := fun n => by
  unfold vl
  cases e : dlook d n with
  | none => exact .inl rfl
  | some v =>
    obtain ⟨kv, h1, h2⟩ : ∃ kv ∈ d, kv.2 = v := by
      unfold dlook at e
      obtain ⟨kv, h1, h2⟩ := Option.map_eq_some_iff.mp e
      exact ⟨kv, List.mem_of_find?_eq_some h1, h2⟩
    exact h2 ▸ h.2 kv h1
theorem solve_ok {ns : List Str} {cs : List Cla} (ha : Asc ns) (h4 : ns.length ≤ 5) (hl : cs.length ≤ 250) (hcs : ∀ c ∈ cs, CV ns c) :
    Ret (f_solve () (ns, cs)) fun o => match o with | none => ∀ α, B01 α → ¬ Sol cs α | some d => Asg ns d ∧ Sol cs (vl d) := by
  refine ret_noerr (ret_lt (ret_bind (eliminated_ok ha h4 hl hcs) fun ts ⟨el, t0⟩ => ret_lt ?_))
  obtain ⟨tn, hn⟩ : ∃ t, ts[ns.length]? = some t := ⟨_, List.getElem?_eq_getElem (by rw [el.len]; omega)⟩
  have hlast : ts.getLast? = some tn := by rw [List.getLast?_eq_getElem?, el.len]; exact hn
  have nil : ∀ c ∈ tn.2, c = [] := fun c hc => by
    have := (el.cv _ tn hn).1 c hc
    rw [Nat.sub_self, List.take_zero] at this
    cases c with
    | nil => rfl
    | cons l c => have := (this.2 l (List.mem_cons_self ..)).1; simp at this
  have gr : f_Bits_ground () tn = .ok (if tn.2.all (hv []) = true then some [] else none) := by
    unfold f_Bits_ground
    rw [sat_ok (d := []) fun c hc l hl => by rw [nil c hc] at hl; cases hl]
    rfl
  refine ret_eq (pidx_last hlast) (ret_eq gr (ret_lt ?_))
  by_cases z : tn.2.all (hv []) = true
  · rw [if_pos z]
    have en : tn.2 = [] := by
      cases e : tn.2 with
      | nil => rfl
      | cons c r =>
        have := List.all_eq_true.mp z c (by rw [e]; simp)
        rw [nil c (by rw [e]; simp)] at this
        cases this
    refine ret_if (fun z => nomatch z) fun _ => ret_eq (x := ([] : Dict)) rfl (ret_bind (P := fun d => Asg ns d ∧ Sol cs (vl d)) ?_ fun d hd => ret_ok hd)
    refine ret_noerr (ret_lt (ret_eq (guard_ok (show -40000 ≤ (ns.length : Int) ∧ (ns.length : Int) ≤ 40000 by omega)) (ret_bind (ret_fold (fun pre (d : Dict) => Asg (ns.take pre.length) d ∧ ∀ t, ts[ns.length - pre.length]? = some t → Sol t.2 (vl d)) ⟨⟨rfl, by simp⟩, fun t ht => ?_⟩ ?_) fun d hd => ret_ok ?_)))
    · rw [show ns.length - ([] : List Int).length = ns.length from rfl, hn] at ht
      cases ht
      intro c hc
      rw [en] at hc; cases hc
    · rintro pre x post d e ⟨i1, i2⟩
      have e : rng 0 ns.length = pre ++ x :: post := by rw [Int.toNat_natCast] at e; exact e
      obtain ⟨rfl, hp⟩ := rng_at e
      obtain ⟨y, hy⟩ : ∃ y, ns[pre.length]? = some y := ⟨_, List.getElem?_eq_getElem hp⟩
      obtain ⟨t, ht⟩ : ∃ t, ts[ns.length - 1 - pre.length]? = some t := ⟨_, List.getElem?_eq_getElem (by rw [el.len]; omega)⟩
      obtain ⟨t', ht'⟩ : ∃ t, ts[ns.length - pre.length]? = some t := ⟨_, List.getElem?_eq_getElem (by rw [el.len]; omega)⟩
      have e1 : (((ns.length : Int) - (1 : Int)) - ((pre.length : Nat) : Int)) = ((ns.length - 1 - pre.length : Nat) : Int) := by omega
      have tk : ns.take (pre.length + 1) = ns.take pre.length ++ [y] := by rw [List.take_add_one, hy]; rfl
      have yn : y ∉ ns.take pre.length := fun h => by
        have := take_asc ha (pre.length + 1)
        rw [tk] at this
        exact slt_irrefl y (asc_snoc this y h)
      have ndg : (dkeys d).Nodup := by rw [i1.1]; exact (take_asc ha _).nodup
      have hn' : y ∉ dkeys d := by rw [i1.1]; exact yn
      have hgl : d.length ≤ 5 := by rw [keys_len, i1.1, List.length_take]; omega
      obtain ⟨c1, _⟩ := el.cv _ t ht
      have e2 : ns.length - (ns.length - 1 - pre.length) = pre.length + 1 := by omega
      rw [e2, tk] at c1
      have kn : ∀ v, Kn (d ++ [(y, v)]) t.2 := fun v => kn_of c1 fun n hn => by
        unfold dkeys
        rw [List.map_append]
        show n ∈ dkeys d ++ [y]
        rw [i1.1]; exact hn
      obtain ⟨v, hv, sv⟩ := el.back (ns.length - 1 - pre.length) t t' y ht (by rw [show ns.length - 1 - pre.length + 1 = ns.length - pre.length by omega]; exact ht') (by rw [show ns.length - 1 - (ns.length - 1 - pre.length) = pre.length by omega]; exact hy) (vl d) (vl_b i1) (i2 t' ht')
      have lf := lift_ok (t := t) ndg hn' (by omega) kn
      have good : ∃ w : Int, (w = 0 ∨ w = 1) ∧ f_Bits_lift () t y d = .ok w ∧ Sol t.2 (upA (vl d) y w) := by
        by_cases z0 : pvv t.2 d y 0 = true
        · exact ⟨0, .inl rfl, by rw [lf, if_pos z0], (pvv_iff hn').mp z0⟩
        · have : v = 1 := hv.resolve_left fun z => z0 ((pvv_iff hn').mpr (z ▸ sv))
          have z1 : pvv t.2 d y 1 = true := (pvv_iff hn').mpr (this ▸ sv)
          exact ⟨1, .inr rfl, by rw [lf, if_neg z0, if_pos z1], (pvv_iff hn').mp z1⟩
      obtain ⟨w, hw, ew, sw⟩ := good
      rw [e1]
      refine ret_eq (pidx_nat ht) (ret_eq (pidx_nat hy) (ret_eq ew (ret_eq (pidx_nat hy) (ret_eq (pdput_ok (by omega)) (ret_ok ?_)))))
      rw [dput_new hn', List.length_append, List.length_singleton]
      refine ⟨⟨?_, fun kv h => ?_⟩, fun u hu => ?_⟩
      · unfold dkeys
        rw [List.map_append, tk, ← i1.1]; rfl
      · rcases List.mem_append.mp h with h | h
        · exact i1.2 kv h
        · rw [List.mem_singleton.mp h]; exact hw
      · rw [show ns.length - (pre.length + 1) = ns.length - 1 - pre.length by omega, ht] at hu
        cases hu
        have : vl (d ++ [(y, w)]) = upA (vl d) y w := funext fun n => vl_app hn'
        rw [this]; exact sw
    · rw [rng_len, Int.toNat_natCast, List.take_length] at hd
      exact ⟨hd.1, hd.2 _ (by rw [Nat.sub_self]; exact t0)⟩
  · rw [if_neg z]
    refine ret_if (fun _ => ret_ok ?_) fun z => absurd rfl z
    intro α b sol
    have chain : ∀ (j : Nat) (t : Th), ts[j]? = some t → Sol t.2 α := fun j => by
      induction j with
      | zero => intro t h; rw [t0] at h; cases h; exact sol
      | succ j ih =>
        intro t h
        obtain ⟨u, hu⟩ : ∃ u, ts[j]? = some u := ⟨_, List.getElem?_eq_getElem (by have := (List.getElem?_eq_some_iff.mp h).1; omega)⟩
        exact el.fwd j u t hu h α b (ih u hu)
    refine z (List.all_eq_true.mpr fun c hc => ?_)
    obtain ⟨l, hl, _⟩ := chain _ tn hn c hc
    rw [nil c hc] at hl
    cases hl
theorem some_ok {l : List Int} {names : List Str} {most : Int} (hl : Src2 l) (h0 : 0 ≤ most) (h1 : names.length < 1000) : Ret (f__law_some l names most) fun r => Src2 r.2 ∧ r.1.Sublist names ∧ (r.1.length : Int) ≤ most := by
  refine ret_noerr (ret_lt (ret_bind (ret_fold (fun pre (s : List Int × List Str) => Src2 s.1 ∧ s.2.Sublist pre ∧ (s.2.length : Int) ≤ most) ⟨hl, List.Sublist.refl _, by simpa using h0⟩ ?_) fun s hs => ret_ok ⟨hs.1, hs.2.1, hs.2.2⟩))
  rintro pre x post s e ⟨i1, i2, i3⟩
  refine ret_bind (P := fun r : Bool × List Int => Src2 r.2 ∧ (r.1 = true → (s.2.length : Int) < most)) (ret_if (fun h => ret_bind (draw_ok i1 (by omega) (by omega)) fun r hr => ret_ok ⟨hr.2, fun _ => of_decide_eq_true h⟩) fun _ => ret_ok ⟨i1, nofun⟩) fun r hr => ret_if (fun h => ?_) fun h => ?_
  · have hx : s.2.length < 100000 := by have := i2.length_le; rw [e] at h1; simp at h1; omega
    refine ret_eq (psnoc_ok hx) (ret_ok ⟨hr.1, i2.append (List.Sublist.refl [x]), ?_⟩)
    have := hr.2 h
    rw [List.length_append]; simp; omega
  · exact ret_ok ⟨hr.1, i2.trans (List.sublist_append_left ..), i3⟩
theorem ret_pmlG {α β : Type} {f : α → Res (Option β)} (G : β → Prop) : ∀ {xs : List α}, (∀ x ∈ xs, Ret (f x) fun o => ∀ y ∈ o, G y) → Ret (pml f xs) fun L => L.length ≤ xs.length ∧ ∀ y ∈ L, G y
  | [], _ => ret_ok ⟨Nat.le_refl _, by simp⟩
  | x :: xs, h => by
    refine ret_bind (h x (List.mem_cons_self ..)) fun o ho => ret_bind (ret_pmlG G fun y hy => h y (List.mem_cons_of_mem _ hy)) fun L hL => ret_ok ⟨?_, fun y hy => ?_⟩
    · cases o <;> simp <;> omega
    · exact (List.mem_append.mp hy).elim (fun h => ho y (by simpa using h)) (hL.2 y)
theorem mem_rng {n : Nat} {x : Int} (h : x ∈ rng 0 n) : 0 ≤ x ∧ x < n := by
  unfold rng at h
  obtain ⟨k, hk, rfl⟩ := List.mem_map.mp h
  have := List.mem_range.mp hk
  omega
/-! ### normal forms -/
/-- from which no literal can be dropped -/
def PI (ns : List Str) (cs : List Cla) (c : Cla) : Prop := CV ns c ∧ Fol cs c ∧ ∀ d : Cla, (∀ l ∈ d, l ∈ c) → Fol cs d → ∀ l ∈ c, l ∈ d
def NF (ns : List Str) (cs L : List Cla) : Prop := L.Pairwise (fun a b => ltCla a b = true) ∧ ∀ c, c ∈ L ↔ PI ns cs c
/-! ### Tison's method -/
def NT (c : Cla) : Prop := ∀ n, (n, (0 : Int)) ∈ c → (n, (1 : Int)) ∈ c → False
def Cov (cs : List Cla) (X : List Str) (c : Cla) : Prop := ∀ α, B01 α → (∀ l ∈ c, l.1 ∈ X → α l.1 ≠ l.2) → ∃ d ∈ cs, ∀ l ∈ d, (l.1 ∈ X → α l.1 ≠ l.2) ∧ (l.1 ∉ X → l ∈ c)
structure TI (ns : List Str) (cs : List Cla) (X : List Str) (S : List Cla) : Prop where
  cv : ∀ d ∈ S, CV ns d
  fol : ∀ d ∈ S, Fol cs d
  all : ∀ c : Cla, (∀ l ∈ c, l.2 = 0 ∨ l.2 = 1) → NT c → Cov cs X c → ∃ d ∈ S, ∀ l ∈ d, l ∈ c
  min : ∀ d ∈ S, ∀ e ∈ S, (∀ l ∈ d, l ∈ e) → d = e
  asc : S.Pairwise fun a b => ltCla a b = true
theorem least_ti {ns : List Str} {cs : List Cla} {X : List Str} {T L : List Cla} (cv : ∀ d ∈ T, CV ns d) (fol : ∀ d ∈ T, Fol cs d) (all : ∀ c : Cla, (∀ l ∈ c, l.2 = 0 ∨ l.2 = 1) → NT c → Cov cs X c → ∃ d ∈ T, ∀ l ∈ d, l ∈ c)
    (hL : L.Pairwise (fun a b => ltCla a b = true) ∧ ∀ c, c ∈ L ↔ Minl T c) : TI ns cs X L := by
  refine ⟨fun d hd => cv d ((hL.2 d).mp hd).1, fun d hd => fol d ((hL.2 d).mp hd).1, fun c h1 h2 h3 => ?_, fun d hd e he h => ((hL.2 e).mp he).2 d ((hL.2 d).mp hd).1 h, hL.1⟩
  obtain ⟨d, hd, hdc⟩ := all c h1 h2 h3
  obtain ⟨e, he, hed⟩ := minl_ex (fun c h => (cv c h).1) d.length d hd (Nat.le_refl _)
  exact ⟨e, (hL.2 e).mpr he, fun l hl => hdc l (hed l hl)⟩
theorem cov0 {cs : List Cla} {c : Cla} (h : Cov cs [] c) : ∃ d ∈ cs, ∀ l ∈ d, l ∈ c := by
  obtain ⟨d, hd, h⟩ := h (fun _ => 0) (fun _ => .inl rfl) (fun l _ hx => by simp at hx)
  exact ⟨d, hd, fun l hl => (h l hl).2 (by simp)⟩
/-- with one literal of y more, without y walked -/
theorem cov_side {ns : List Str} {cs : List Cla} {X : List Str} {y : Str} {c : Cla} {v : Int} (hcs : ∀ d ∈ cs, CV ns d) (hv : v = 0 ∨ v = 1) (hy : y ∉ X) (h : Cov cs (X ++ [y]) c) (hn : (y, 1 - v) ∉ c) (hs : ∀ l ∈ c, l.2 = 0 ∨ l.2 = 1) : Cov cs X (c ++ [(y, v)]) := by
  intro α b hα
  obtain ⟨d, hd, hd2⟩ := h (upA α y (1 - v)) (upA_b b (by omega)) fun l hl hx => by
    rcases List.mem_append.mp hx with hx | hx
    · have : l.1 ≠ y := fun e => hy (e ▸ hx)
      rw [upA_ne this]; exact hα l (List.mem_append_left _ hl) hx
    · have e : l.1 = y := by simpa using hx
      rw [e, upA_eq]
      intro z
      exact hn (by rw [← e, z]; exact hl)
  refine ⟨d, hd, fun l hl => ⟨fun hx => ?_, fun hx => ?_⟩⟩
  · have : l.1 ≠ y := fun e => hy (e ▸ hx)
    have := (hd2 l hl).1 (List.mem_append_left _ hx)
    rwa [upA_ne (by assumption)] at this
  · by_cases e : l.1 = y
    · have := (hd2 l hl).1 (by rw [e]; simp)
      rw [e, upA_eq] at this
      have h2 := ((hcs d hd).2 l hl).2
      have : l = (y, v) := Prod.ext e (by show l.2 = v; omega)
      rw [this]; simp
    · exact List.mem_append_left _ ((hd2 l hl).2 fun z => (List.mem_append.mp z).elim hx fun z => e (by simpa using z))
theorem step_all {ns : List Str} {cs : List Cla} {X : List Str} {y : Str} {S R : List Cla} (hcs : ∀ d ∈ cs, CV ns d) (hy : y ∉ X) (t : TI ns cs X S)
    (hR : ∀ a ∈ S, ∀ b ∈ S, (y, 1) ∈ a → (y, 0) ∈ b → Clash y (a ++ b) ∨ ∃ r ∈ R, Res1 a b y (some r)) (c : Cla) (hs : ∀ l ∈ c, l.2 = 0 ∨ l.2 = 1) (nt : NT c) (h : Cov cs (X ++ [y]) c) : ∃ d ∈ S ++ R, ∀ l ∈ d, l ∈ c := by
  have side : ∀ v : Int, (v = 0 ∨ v = 1) → (y, 1 - v) ∉ c → ∃ d ∈ S, ∀ l ∈ d, l ∈ c ++ [(y, v)] := fun v hv hn => t.all _ (fun l hl => (List.mem_append.mp hl).elim (hs l) fun h => by rw [List.mem_singleton.mp h]; exact hv) (fun n h0 h1 => by
    rcases List.mem_append.mp h0 with h0 | h0 <;> rcases List.mem_append.mp h1 with h1 | h1
    · exact nt n h0 h1
    · have : n = y ∧ (1 : Int) = v := by simpa using h1
      obtain ⟨rfl, rfl⟩ := this
      exact hn (by simpa using h0)
    · have : n = y ∧ (0 : Int) = v := by simpa using h0
      obtain ⟨rfl, rfl⟩ := this
      exact hn (by simpa using h1)
    · have e0 : n = y ∧ (0 : Int) = v := by simpa using h0
      have e1 : n = y ∧ (1 : Int) = v := by simpa using h1
      omega) (cov_side hcs hv hy h hn hs)
  by_cases p1 : (y, (1 : Int)) ∈ c
  · obtain ⟨d, hd, hdc⟩ := side 1 (.inr rfl) fun z => nt y z p1
    exact ⟨d, List.mem_append_left _ hd, fun l hl => (List.mem_append.mp (hdc l hl)).elim id fun z => by rw [List.mem_singleton.mp z]; exact p1⟩
  · by_cases p0 : (y, (0 : Int)) ∈ c
    · obtain ⟨d, hd, hdc⟩ := side 0 (.inl rfl) p1
      exact ⟨d, List.mem_append_left _ hd, fun l hl => (List.mem_append.mp (hdc l hl)).elim id fun z => by rw [List.mem_singleton.mp z]; exact p0⟩
    · obtain ⟨a, ha, hac⟩ := side 1 (.inr rfl) p0
      obtain ⟨b, hb, hbc⟩ := side 0 (.inl rfl) p1
      by_cases ma : (y, (1 : Int)) ∈ a
      · by_cases mb : (y, (0 : Int)) ∈ b
        · have sub : ∀ l ∈ a ++ b, l.1 ≠ y → l ∈ c := fun l hl ne => by
            rcases List.mem_append.mp hl with h | h
            · exact (List.mem_append.mp (hac l h)).elim id fun z => absurd (by rw [List.mem_singleton.mp z]) ne
            · exact (List.mem_append.mp (hbc l h)).elim id fun z => absurd (by rw [List.mem_singleton.mp z]) ne
          rcases hR a ha b hb ma mb with ⟨l, hl, m, hm, e1, e2, e3⟩ | ⟨r, hr, hr2⟩
          · have q1 := sub l hl e2
            have q2 := sub m hm (e1 ▸ e2)
            have s1 := hs l q1
            have s2 := hs m q2
            have hl' : l = (l.1, l.2) := rfl
            have hm' : m = (l.1, m.2) := Prod.ext e1.symm rfl
            rw [hl'] at q1; rw [hm'] at q2
            rcases s1 with s1 | s1 <;> rcases s2 with s2 | s2 <;> rw [s1] at q1 <;> rw [s2] at q2
            · omega
            · exact (nt _ q1 q2).elim
            · exact (nt _ q2 q1).elim
            · omega
          · exact ⟨r, List.mem_append_right _ hr, fun l hl => sub l ((hr2.2 l).mp hl).2 ((hr2.2 l).mp hl).1⟩
        · exact ⟨b, List.mem_append_left _ hb, fun l hl => (List.mem_append.mp (hbc l hl)).elim id fun z => absurd (by rw [← List.mem_singleton.mp z]; exact hl) mb⟩
      · exact ⟨a, List.mem_append_left _ ha, fun l hl => (List.mem_append.mp (hac l hl)).elim id fun z => absurd (by rw [← List.mem_singleton.mp z]; exact hl) ma⟩
/-- the end of it -/
theorem ti_nf {ns : List Str} {cs S : List Cla} (hcs : ∀ d ∈ cs, CV ns d) (t : TI ns cs ns S) : NF ns cs S := by
  have key : ∀ c, CV ns c → Fol cs c → ∃ d ∈ S, ∀ l ∈ d, l ∈ c := fun c hc f => t.all c (fun l hl => (hc.2 l hl).2) (fun n h0 h1 => by
    have := uniq hc.1 h0 h1 rfl
    simp at this) fun α b hα => Classical.byContradiction fun z => by
      obtain ⟨l, h1, h2⟩ := f α b fun d hd => Classical.byContradiction fun w => z ⟨d, hd, fun l hl => ⟨fun _ e => w ⟨l, hl, e⟩, fun x => absurd ((hcs d hd).2 l hl).1 x⟩⟩
      exact hα l h1 (hc.2 l h1).1 h2
  have sub : ∀ (c d : Cla), CV ns c → (∀ l ∈ d, l ∈ c) → CV ns (c.filter fun l => pin l d) ∧ ∀ l, l ∈ (c.filter fun l => pin l d) ↔ l ∈ d := fun c d hc h => ⟨⟨hc.1.sublist (List.filter_sublist ..), fun l hl => hc.2 l (List.mem_filter.mp hl).1⟩, fun l => by
    rw [List.mem_filter, pin_iff]
    exact ⟨fun z => z.2, fun z => ⟨h l z, z⟩⟩⟩
  refine ⟨t.asc, fun c => ⟨fun hc => ⟨t.cv c hc, t.fol c hc, fun d hd f l hl => ?_⟩, fun ⟨h1, h2, h3⟩ => ?_⟩⟩
  · obtain ⟨q1, q2⟩ := sub c d (t.cv c hc) hd
    obtain ⟨e, he, hed⟩ := key _ q1 (fol_mono (fun l hl => (q2 l).mpr hl) f)
    have : e = c := t.min e he c hc fun l hl => hd l ((q2 l).mp (hed l hl))
    subst this
    exact (q2 l).mp (hed l hl)
  · obtain ⟨d, hd, hdc⟩ := key c h1 h2
    have : d = c := cla_ext (t.cv d hd).1 h1.1 fun l => ⟨hdc l, h3 d hdc (t.fol d hd) l⟩
    rw [← this]; exact hd
theorem close_ok {ns : List Str} {cs : List Cla} (ha : Asc ns) (hl : ns.length ≤ 5) (hc : cs.length ≤ 250) (hcs : ∀ c ∈ cs, CV ns c) : Ret (f_close_clauses cs ns) (NF ns cs) := by
  refine ret_noerr (ret_bind (least_ok2 (by omega) fun c h => (hcs c h).1) fun L hL => ret_lt (ret_bind (ret_fold (fun pre (S : List Cla) => TI ns cs pre S) (least_ti hcs (fun d hd α _ s => s d hd) (fun c _ _ h => cov0 h) hL) ?_) fun S hS => ret_ok (ti_nf hcs hS)))
  rintro pre y post S e t
  have hy : y ∉ pre := fun z => absurd (asc_snoc (e ▸ ha) y z) (slt_irrefl _)
  have h81 : S.length ≤ 243 := cv_count ha hl (asc_nodup stot_cla t.asc) t.cv
  refine ret_bind (resolvents_ok (by omega) fun c h => by have := cv_len4 (t.cv c h) hl; omega) fun R hR => ?_
  have hRl : R.length ≤ 243 * 243 := Nat.le_trans hR.2.2 (Nat.mul_le_mul (Nat.le_trans (List.length_filter_le ..) h81) (Nat.le_trans (List.length_filter_le ..) h81))
  have cvR : ∀ d ∈ S ++ R, CV ns d := fun d hd => (List.mem_append.mp hd).elim (t.cv d) fun h => by
    obtain ⟨a, qa, b, qb, _, _, q⟩ := hR.1 d h
    exact res_cv (t.cv a qa) (t.cv b qb) q
  have fR : ∀ d ∈ S ++ R, Fol cs d := fun d hd => (List.mem_append.mp hd).elim (t.fol d) fun h => by
    obtain ⟨a, qa, b, qb, q1, q0, q⟩ := hR.1 d h
    exact res_fol (t.fol a qa) (t.fol b qb) (t.cv a qa).1 (t.cv b qb).1 q1 q0 q
  refine ret_eq (x := S ++ R) (if_pos (by rw [List.length_append]; omega)) (ret_bind (least_ok2 (by rw [List.length_append]; omega) fun c h => (cvR c h).1) fun L' hL' => ret_lt (ret_ok (least_ti cvR fR (step_all hcs hy t hR.2.1) hL')))
theorem cut_at {α : Type} {xs : List α} {k : Nat} (h : k ≤ xs.length) : pcut xs (some (k : Int)) none = xs.drop k := by
  unfold pcut
  rw [HT.sIx_nat, HT.sIx_none, Nat.min_eq_left h]
  exact List.take_of_length_le (by rw [List.length_drop]; exact Nat.le_refl _)
theorem pi_iff {ns : List Str} {cs : List Cla} {c : Cla} (hc : CV ns c) : PI ns cs c ↔ Fol cs c ∧ ∀ k, k < c.length → ¬ Fol cs (c.take k ++ c.drop (k + 1)) := by
  have at_ : ∀ k (h : k < c.length), c = c.take k ++ c[k] :: c.drop (k + 1) := fun k h => by rw [← List.drop_eq_getElem_cons h, List.take_append_drop]
  constructor
  · rintro ⟨_, f, h⟩
    refine ⟨f, fun k hk g => ?_⟩
    have e := at_ k hk
    have nd := cla_nodup hc.1
    have := h _ (fun l hl => ?_) g c[k] (List.getElem_mem hk)
    · rw [e] at nd
      obtain ⟨_, n2, n3⟩ := List.nodup_append.mp nd
      rcases List.mem_append.mp this with w | w
      · exact n3 _ w c[k] (List.mem_cons_self ..) rfl
      · exact (List.nodup_cons.mp n2).1 w
    · rw [e]
      rcases List.mem_append.mp hl with w | w
      · exact List.mem_append_left _ w
      · exact List.mem_append_right _ (List.mem_cons_of_mem _ w)
  · rintro ⟨f, h⟩
    refine ⟨hc, f, fun d hd g l hl => Classical.byContradiction fun z => ?_⟩
    obtain ⟨k, hk, rfl⟩ := List.mem_iff_getElem.mp hl
    refine h k hk (fol_mono (fun m hm => ?_) g)
    have := hd m hm
    rw [at_ k hk] at this
    rcases List.mem_append.mp this with w | w
    · exact List.mem_append_left _ w
    · rcases List.mem_cons.mp w with w | w
      · exact absurd (w ▸ hm) z
      · exact List.mem_append_right _ w
theorem cv_cut {ns : List Str} {c : Cla} (hc : CV ns c) {k : Nat} (hk : k < c.length) : CV ns (c.take k ++ c.drop (k + 1)) := by
  refine cv_sub hc ?_
  have e := List.take_append_drop k c
  rw [List.drop_eq_getElem_cons hk] at e
  conv => rhs; rw [← e]
  exact (List.Sublist.refl _).append (List.sublist_cons_self ..)
theorem nf_same {ns : List Str} {cs cs' L L' : List Cla} (h : NF ns cs L) (h' : NF ns cs' L') (e : ∀ c, CV ns c → (Fol cs c ↔ Fol cs' c)) : L = L' := by
  refine asc_ext stot_cla h.1 h'.1 fun c => ?_
  rw [h.2 c, h'.2 c]
  by_cases hc : CV ns c
  · rw [pi_iff hc, pi_iff hc, e c hc]
    exact and_congr_right fun _ => forall_congr' fun k => imp_congr_right fun hk => by rw [e _ (cv_cut hc hk)]
  · exact ⟨fun z => absurd z.1 hc, fun z => absurd z.1 hc⟩
theorem normal_ok {ns : List Str} {cs : List Cla} (ha : Asc ns) (hl : ns.length ≤ 5) (hc : cs.length ≤ 250) (hcs : ∀ c ∈ cs, CV ns c) : Ret (f_Bits_normal () (ns, cs)) fun r => r.1 = ns ∧ NF ns cs r.2 :=
  ret_noerr (ret_bind (close_ok ha hl hc hcs) fun L hL => ret_ok ⟨rfl, hL⟩)
/-! ### shadows -/
/-- what is left when the names ys are gone -/
structure Left (ns : List Str) (cs : List Cla) (ys : List Str) (t : Th) : Prop where
  nm : t.1 = ns.filter fun n => decide (n ∉ ys)
  cv : ∀ c ∈ t.2, CV t.1 c
  len : t.2.length ≤ 250
  fol : ∀ c : Cla, (∀ l ∈ c, l.1 ∉ ys) → (Fol t.2 c ↔ Fol cs c)
theorem elim1 {ns : List Str} {cs : List Cla} {ys : List Str} {t : Th} {y : Str} (ha : Asc ns) (h5 : ns.length ≤ 5) (hy : y ∈ ns) (hn : y ∉ ys) (h : Left ns cs ys t) : Ret (f_Bits_eliminate () t y) (Left ns cs (ys ++ [y])) := by
  obtain ⟨nm, E⟩ := t
  obtain ⟨h1, h2, h3, h4⟩ := h
  have h1 : nm = _ := h1
  have am : Asc nm := h1 ▸ List.Pairwise.filter _ ha
  have nm5 : nm.length ≤ 5 := by rw [h1]; exact Nat.le_trans (List.length_filter_le ..) h5
  have ym : y ∈ nm := by rw [h1, List.mem_filter]; exact ⟨hy, by simpa using hn⟩
  have fe : (nm.filter fun q1 => (!decide (q1 = y))) = ns.filter fun n => decide (n ∉ ys ++ [y]) := by
    rw [h1, List.filter_filter]
    refine List.filter_congr fun n _ => ?_
    rw [Bool.eq_iff_iff]
    simp [and_comm]
  have lt : (nm.filter fun q1 => (!decide (q1 = y))).length < nm.length := by
    refine Classical.byContradiction fun z => ?_
    have := (List.filter_sublist (l := nm) (p := fun q1 => (!decide (q1 = y)))).eq_of_length_le (by omega)
    rw [← this] at ym
    simp at ym
  have mem : ∀ n, n ∈ (nm.filter fun q1 => (!decide (q1 = y))) ↔ n ∈ nm ∧ n ≠ y := fun n => by rw [List.mem_filter]; simp
  refine ret_noerr (ret_bind (elim_step am nm5 (by omega) mem (List.Pairwise.filter _ am) h3 h2) fun E' ⟨e1, e2, e3, e4⟩ => ret_ok ⟨?_, ?_, by show E'.length ≤ 250; omega, fun c hc => ?_⟩)
  · show f_drop_name nm y = _
    unfold f_drop_name
    rw [List.map_id']; exact fe
  · show ∀ c ∈ E', CV (f_drop_name nm y) c
    unfold f_drop_name
    rw [List.map_id']; exact e1
  · have hc' : ∀ l ∈ c, l.1 ∉ ys := fun l hl z => hc l hl (List.mem_append_left _ z)
    have hy' : ∀ l ∈ c, l.1 ≠ y := fun l hl z => hc l hl (by rw [z]; simp)
    rw [← h4 c hc']
    constructor
    · exact fun f α b s => f α b (e4 α b s)
    · intro f α b s
      obtain ⟨v, hv, s'⟩ := e3 α b s
      obtain ⟨l, hl, e⟩ := f _ (upA_b b hv) s'
      exact ⟨l, hl, by rw [← upA_ne (α := α) (v := v) (hy' l hl)]; exact e⟩
theorem left0 {ns : List Str} {cs : List Cla} (hl : cs.length ≤ 250) (hcs : ∀ c ∈ cs, CV ns c) : Left ns cs [] (ns, cs) := ⟨(List.filter_eq_self.mpr fun n _ => by simp).symm, hcs, hl, fun c _ => Iff.rfl⟩
/-! ### == over data -/
def dLit (l : Lit) : Dy := .tup [.str l.1, .int l.2]
def dCla (c : Cla) : Dy := .tup (c.map dLit)
def dTh (t : Th) : Dy := .tup [.tup (t.1.map fun z => .str z), .tup (t.2.map dCla)]
theorem eqS {k : Nat} {s : Str} : f__law_exact_r (k + 1) (.str s) (.str s) = .ok true := by
  rw [f__law_exact_r]
  simp [Dy.sel, Res.noerr]
theorem eqI {k : Nat} {i : Int} : f__law_exact_r (k + 1) (.int i) (.int i) = .ok true := by
  rw [f__law_exact_r]
  simp [Dy.sel, Res.noerr]
theorem eqT {k : Nat} {xs : List Dy} (hl : xs.length ≤ 30000) (h : ∀ x ∈ xs, f__law_exact_r k x x = .ok true) : f__law_exact_r (k + 1) (.tup xs) (.tup xs) = .ok true := by
  rw [f__law_exact_r]
  refine ret_to (ret_noerr (ret_if (fun _ => ?_) fun z => absurd rfl z))
  refine ret_bind (P := fun r : Bool × Unit => r.1 = false) (ret_if (fun z => nomatch z) fun _ => ret_eq (x := xs) rfl (ret_eq (x := xs) rfl (ret_ok (by simp)))) fun r hr => ?_
  rw [hr]
  refine ret_if (fun z => nomatch z) fun _ => ret_eq (x := xs) rfl (ret_eq (guard_ok (by omega)) (ret_thn (ret_for (fun _ _ => True) (fun _ => True) (fun _ => False) trivial (fun _ _ => trivial) ?_) (fun _ _ => ret_ok rfl) fun _ h => h.elim))
  rintro pre q post u e _
  obtain ⟨rfl, hk⟩ := rng_at e
  have hk : pre.length < xs.length := by simpa using hk
  have ex : Dy.ix (.tup xs) ((pre.length : Nat) : Int) = .ok xs[pre.length] := pidx_nat (List.getElem?_eq_getElem hk)
  refine ret_eq ex (ret_eq ex (ret_eq (h _ (List.getElem_mem hk)) (ret_if (fun z => nomatch z) fun _ => ret_ok trivial)))
theorem eqTh {t : Th} (h1 : t.1.length ≤ 30000) (h2 : t.2.length ≤ 30000) (h3 : ∀ c ∈ t.2, c.length ≤ 30000) : f__law_exact_r 6 (dTh t) (dTh t) = .ok true := by
  refine eqT (by simp) fun x hx => ?_
  rcases List.mem_cons.mp hx with rfl | hx
  · refine eqT (by simpa using h1) fun x hx => ?_
    obtain ⟨s, _, rfl⟩ := List.mem_map.mp hx
    exact eqS
  · rw [List.mem_singleton.mp hx]
    refine eqT (by simpa using h2) fun x hx => ?_
    obtain ⟨c, hc, rfl⟩ := List.mem_map.mp hx
    refine eqT (by simpa using h3 c hc) fun x hx => ?_
    obtain ⟨l, _, rfl⟩ := List.mem_map.mp hx
    refine eqT (by simp) fun x hx => ?_
    rcases List.mem_cons.mp hx with rfl | hx
    · exact eqS
    · rw [List.mem_singleton.mp hx]; exact eqI
/-! ### joining -/
theorem merge_one {xs : List Str} {s : List (Str × Bool)} (hl : s.length + xs.length < 60) (nd : (dkeys s).Nodup) : Ret (pfold (fun (s2 : ((List (Str × Bool)))) (q2 : Str) => (((pdput s2 q2 true).bind fun d1 => .ok (d1)) : Res ((List (Str × Bool))))) s xs) fun t => (∀ x, x ∈ dkeys t ↔ x ∈ dkeys s ∨ x ∈ xs) ∧ (dkeys t).Nodup ∧ t.length ≤ s.length + xs.length := by
  refine ret_fold (fun pre (t : List (Str × Bool)) => (∀ x, x ∈ dkeys t ↔ x ∈ dkeys s ∨ x ∈ pre) ∧ (dkeys t).Nodup ∧ t.length ≤ s.length + pre.length) ⟨by simp, nd, Nat.le_refl _⟩ ?_
  rintro pre x post t e ⟨i1, i2, i3⟩
  have : pre.length < xs.length := by rw [e]; simp
  refine ret_eq (pdput_ok (by omega)) (ret_ok ⟨fun y => ?_, dkeys_put_nodup i2, ?_⟩)
  · rw [mem_dkeys_put, i1, List.mem_append, List.mem_singleton]
    constructor
    · rintro (h | h | h)
      · exact .inr (.inr h)
      · exact .inl h
      · exact .inr (.inl h)
    · rintro (h | h | h)
      · exact .inr (.inl h)
      · exact .inr (.inr h)
      · exact .inl h
  · have := dput_len (d := t) (k := x) (x := true)
    rw [List.length_append]; simp; omega
theorem merge2 {ns a b : List Str} (ha : Asc ns) (na : a.length ≤ 5) (nb : b.length ≤ 5) (h : ∀ n, n ∈ ns ↔ n ∈ a ∨ n ∈ b) : f_merge_names [a, b] = .ok ns := by
  refine ret_to (ret_noerr (ret_lt (ret_bind (P := fun s : List (Str × Bool) => (∀ x, x ∈ dkeys s ↔ x ∈ ns) ∧ (dkeys s).Nodup ∧ s.length ≤ 10) ?_ fun s hs => ret_eq (psortS_ok (by have := hs.2.2; simp [dkeys]; omega)) (ret_ok ?_))))
  · refine ret_bind (P := fun s : List (Str × Bool) => (∀ x, x ∈ dkeys s ↔ x ∈ a) ∧ (dkeys s).Nodup ∧ s.length ≤ 5) (ret_bind (merge_one (by simp; omega) List.nodup_nil) fun s hs => ret_ok ⟨fun x => by rw [hs.1 x]; simp [dkeys], hs.2.1, by have := hs.2.2; simp at this; omega⟩) fun s hs => ?_
    refine ret_bind (P := fun s : List (Str × Bool) => (∀ x, x ∈ dkeys s ↔ x ∈ ns) ∧ (dkeys s).Nodup ∧ s.length ≤ 10) (ret_bind (merge_one (by have := hs.2.2; omega) hs.2.1) fun t ht => ret_ok ⟨fun x => by rw [ht.1 x, hs.1 x, h x], ht.2.1, by have := ht.2.2; have := hs.2.2; omega⟩) fun t ht => ret_ok ht
  · exact Asc.ext (asc_sortS hs.2.1) ha fun x => by rw [mem_sortS]; exact hs.1 x
theorem sol_app {cs ds : List Cla} {α : Str → Int} : Sol (cs ++ ds) α ↔ Sol cs α ∧ Sol ds α :=
  ⟨fun s => ⟨fun d h => s d (List.mem_append_left _ h), fun d h => s d (List.mem_append_right _ h)⟩, fun s d h => (List.mem_append.mp h).elim (s.1 d) (s.2 d)⟩
theorem tr_agree {ns : List Str} {c : Cla} {α β : Str → Int} (hc : CV ns c) (h : ∀ n ∈ ns, α n = β n) : Tr α c ↔ Tr β c := exists_congr fun l => and_congr_right fun hl => by rw [h _ (hc.2 l hl).1]
theorem nf_len {ns : List Str} {cs L : List Cla} (ha : Asc ns) (h5 : ns.length ≤ 5) (h : NF ns cs L) : L.length ≤ 243 ∧ ∀ c ∈ L, c.length ≤ 5 :=
  ⟨cv_count ha h5 (asc_nodup stot_cla h.1) fun c hc => ((h.2 c).mp hc).1, fun c hc => cv_len4 ((h.2 c).mp hc).1 h5⟩
/-! ### the pool -/
def pool5 : List Str := ["a", "a1", "b", "c.d", "d"]
theorem pool5_asc : Asc pool5 := by
  unfold Asc pool5
  decide +kernel
/-- a theory as the law draws it -/
structure ThOk (t : Th) : Prop where
  asc : Asc t.1
  sub : ∀ n ∈ t.1, n ∈ pool5
  len : t.2.length ≤ 7
  cv : ∀ c ∈ t.2, CV t.1 c
def hasN (Ts : List Th) (n : Str) : Bool := Ts.any fun t => decide (n ∈ t.1)
def nmT (Ts : List Th) : List Str := pool5.filter (hasN Ts)
def cat (Ts : List Th) : List Cla := Ts.flatMap (·.2)
theorem hasN_iff {Ts : List Th} {n : Str} : hasN Ts n = true ↔ ∃ t ∈ Ts, n ∈ t.1 := by unfold hasN; rw [List.any_eq_true]; simp
theorem nmT_asc (Ts : List Th) : Asc (nmT Ts) := List.Pairwise.filter _ pool5_asc
theorem nmT_5 (Ts : List Th) : (nmT Ts).length ≤ 5 := Nat.le_trans (List.length_filter_le ..) (by decide)
theorem pool_sub5 {ns : List Str} (ha : Asc ns) (h : ∀ n ∈ ns, n ∈ pool5) : ns.length ≤ 5 := nodup_le ha.nodup h
theorem mem_nmT {Ts : List Th} (h : ∀ t ∈ Ts, ThOk t) {n : Str} : n ∈ nmT Ts ↔ ∃ t ∈ Ts, n ∈ t.1 := by
  unfold nmT
  rw [List.mem_filter, hasN_iff]
  exact ⟨fun z => z.2, fun z => ⟨by obtain ⟨t, h1, h2⟩ := z; exact (h t h1).sub n h2, z⟩⟩
theorem cv_mono {ns ms : List Str} {c : Cla} (h : CV ns c) (hs : ∀ n ∈ ns, n ∈ ms) : CV ms c := ⟨h.1, fun l hl => ⟨hs _ (h.2 l hl).1, (h.2 l hl).2⟩⟩
theorem cat_cv {Ts : List Th} (h : ∀ t ∈ Ts, ThOk t) : ∀ c ∈ cat Ts, CV (nmT Ts) c := fun c hc => by
  obtain ⟨t, ht, hc⟩ := List.mem_flatMap.mp hc
  exact cv_mono ((h t ht).cv c hc) fun n hn => (mem_nmT h).mpr ⟨t, ht, hn⟩
theorem sol_agree {ns : List Str} {cs : List Cla} {α β : Str → Int} (hc : ∀ c ∈ cs, CV ns c) (h : ∀ n ∈ ns, α n = β n) : Sol cs α ↔ Sol cs β := forall_congr' fun c => imp_congr_right fun hm => tr_agree (hc c hm) h
/-- joined: the names of the pool, the clauses one behind another -/
theorem joinL {S : List Th} (h : ∀ t ∈ S, Asc t.1 ∧ (∀ n ∈ t.1, n ∈ pool5) ∧ t.2.length ≤ 243) (hl : S.length ≤ 5) : f_join S = .ok (nmT S, cat S) := by
  refine ret_to (ret_noerr (ret_lt (ret_lt (ret_bind (ret_fold (fun pre (s : Th) => s.1 = nmT pre ∧ s.2 = cat pre ∧ s.2.length ≤ 243 * pre.length) ⟨rfl, rfl, Nat.le_refl _⟩ ?_) fun s hs => ret_ok (by rw [hs.1, hs.2.1])))))
  rintro pre t post ⟨nm, cl⟩ e ⟨i1, i2, i3⟩
  have j1 : nm = nmT pre := i1
  have j2 : cl = cat pre := i2
  have j3 : cl.length ≤ 243 * pre.length := i3
  clear i1 i2 i3
  subst j1
  have hp : pre.length < 5 := by have := congrArg List.length e; simp at this; omega
  obtain ⟨h1, h2, h3⟩ := h t (by rw [e]; simp)
  refine ret_eq (merge2 (nmT_asc (pre ++ [t])) (nmT_5 pre) (pool_sub5 h1 h2) fun n => ?_) (ret_lt (ret_eq (pcat_ok (by show cl.length + t.2.length ≤ 100000; omega)) (ret_ok ⟨rfl, ?_, ?_⟩)))
  · unfold nmT
    rw [List.mem_filter, List.mem_filter, hasN_iff, hasN_iff]
    constructor
    · rintro ⟨q1, u, q2, q3⟩
      rcases List.mem_append.mp q2 with q2 | q2
      · exact .inl ⟨q1, u, q2, q3⟩
      · rw [List.mem_singleton.mp q2] at q3; exact .inr q3
    · rintro (⟨q1, u, q2, q3⟩ | q)
      · exact ⟨q1, u, List.mem_append_left _ q2, q3⟩
      · exact ⟨h2 n q, t, by simp, q⟩
  · show cl ++ t.2 = cat (pre ++ [t])
    rw [j2]; unfold cat; rw [List.flatMap_append]; simp
  · show (cl ++ t.2).length ≤ 243 * (pre ++ [t]).length
    rw [List.length_append, List.length_append, List.length_singleton]; omega
theorem pi_in {ns : List Str} {cs : List Cla} : ∀ {k : Nat} {c : Cla}, c.length ≤ k → CV ns c → Fol cs c → ∃ d, PI ns cs d ∧ ∀ l ∈ d, l ∈ c := by
  intro k
  induction k with
  | zero =>
    intro c hk hc f
    exact ⟨c, (pi_iff hc).mpr ⟨f, fun j hj => by omega⟩, fun _ h => h⟩
  | succ k ih =>
    intro c hk hc f
    by_cases h : ∃ j, j < c.length ∧ Fol cs (c.take j ++ c.drop (j + 1))
    · obtain ⟨j, hj, g⟩ := h
      obtain ⟨d, h1, h2⟩ := ih (c := c.take j ++ c.drop (j + 1)) (by simp; omega) (cv_cut hc hj) g
      refine ⟨d, h1, fun l hl => ?_⟩
      rcases List.mem_append.mp (h2 l hl) with w | w
      · exact List.mem_of_mem_take w
      · exact List.mem_of_mem_drop w
    · exact ⟨c, (pi_iff hc).mpr ⟨f, fun j hj g => h ⟨j, hj, g⟩⟩, fun _ h => h⟩
/-! ### what a shadow tells -/
/-- the clauses cs over ns tell of the theories' solutions just what can be said over ns -/
structure Prj (ns : List Str) (cs : List Cla) (M : List Cla) : Prop where
  cv : ∀ c ∈ cs, CV ns c
  fol : ∀ c, CV ns c → (Fol cs c ↔ Fol M c)
theorem prj_sol {ns : List Str} {cs M : List Cla} (ha : Asc ns) (h : Prj ns cs M) {β : Str → Int} (b : B01 β) : Sol cs β ↔ ∃ α, B01 α ∧ Sol M α ∧ ∀ n ∈ ns, α n = β n := by
  constructor
  · intro s
    refine Classical.byContradiction fun z => ?_
    have hc : CV ns (ns.map fun n => (n, 1 - β n)) := ⟨List.pairwise_map.mpr ha, fun l hl => by
      obtain ⟨n, hn, rfl⟩ := List.mem_map.mp hl
      exact ⟨hn, by show 1 - β n = 0 ∨ 1 - β n = 1; have := b n; omega⟩⟩
    have f : Fol M (ns.map fun n => (n, 1 - β n)) := fun α bα sα => Classical.byContradiction fun w => z ⟨α, bα, sα, fun n hn => by
      have : α n ≠ 1 - β n := fun e => w ⟨_, List.mem_map.mpr ⟨n, hn, rfl⟩, e⟩
      have := b n; have := bα n; omega⟩
    obtain ⟨l, hl, e⟩ := (h.fol _ hc).mpr f β b s
    obtain ⟨n, hn, rfl⟩ := List.mem_map.mp hl
    have e : β n = 1 - β n := e
    omega
  · rintro ⟨α, bα, sα, ag⟩ c hc
    exact (tr_agree (h.cv c hc) ag).mp ((h.fol c (h.cv c hc)).mp (fun α _ s => s c hc) α bα sα)
theorem prj_of_nf {ns : List Str} {cs L : List Cla} (h : NF ns cs L) : Prj ns L cs := by
  refine ⟨fun c hc => ((h.2 c).mp hc).1, fun c hc => ⟨fun f α b s => f α b fun d hd => ((h.2 d).mp hd).2.1 α b s, fun f => ?_⟩⟩
  -- a least one in it is there
  suffices ∀ (k : Nat) (c : Cla), c.length ≤ k → CV ns c → Fol cs c → ∃ d, PI ns cs d ∧ ∀ l ∈ d, l ∈ c by
    obtain ⟨d, hd, sub⟩ := this c.length c (Nat.le_refl _) hc f
    exact fun α _ s => tr_mono sub (s d ((h.2 d).mpr hd))
  exact fun k c hk hc f => pi_in hk hc f
/-! ### the middles -/
/-- the names on both sides of cut k -/
def cm (Ts : List Th) (k : Nat) : List Str := pool5.filter fun n => hasN (Ts.take k) n && hasN (Ts.drop k) n
theorem cm_asc (Ts : List Th) (k : Nat) : Asc (cm Ts k) := List.Pairwise.filter _ pool5_asc
theorem cm_5 (Ts : List Th) (k : Nat) : (cm Ts k).length ≤ 5 := Nat.le_trans (List.length_filter_le ..) (by decide)
theorem cm_pool {Ts : List Th} {k : Nat} : ∀ n ∈ cm Ts k, n ∈ pool5 := fun n hn => (List.mem_filter.mp hn).1
theorem mem_cm {Ts : List Th} {k : Nat} {n : Str} : n ∈ cm Ts k ↔ n ∈ pool5 ∧ hasN (Ts.take k) n = true ∧ hasN (Ts.drop k) n = true := by unfold cm; rw [List.mem_filter, Bool.and_eq_true]
theorem cm_zero (Ts : List Th) : cm Ts 0 = [] := List.filter_eq_nil_iff.mpr fun n _ => by simp [hasN]
theorem take_snoc {Ts : List Th} {k : Nat} {T : Th} (h : Ts[k]? = some T) : Ts.take (k + 1) = Ts.take k ++ [T] := by rw [List.take_add_one, h]; rfl
theorem drop_at {Ts : List Th} {k : Nat} {T : Th} (h : Ts[k]? = some T) : Ts.drop k = T :: Ts.drop (k + 1) := by
  obtain ⟨h1, h2⟩ := List.getElem?_eq_some_iff.mp h
  rw [List.drop_eq_getElem_cons h1, h2]
theorem cat_app (A B : List Th) : cat (A ++ B) = cat A ++ cat B := List.flatMap_append
theorem cat_one (t : Th) : cat [t] = t.2 := by unfold cat; simp
/-- a theory more -/
theorem step_fol {Ts : List Th} (h : ∀ t ∈ Ts, ThOk t) {k : Nat} {T : Th} (hT : Ts[k]? = some T) {L : List Cla} (p : Prj (cm Ts k) L (cat (Ts.take k))) {c : Cla} (hc : ∀ l ∈ c, l.1 ∈ cm Ts k ∨ l.1 ∈ T.1) : Fol (L ++ T.2) c ↔ Fol (cat (Ts.take (k + 1))) c := by
  have hTm : T ∈ Ts := List.mem_of_getElem? hT
  have hk : ∀ t ∈ Ts.take k, ThOk t := fun t ht => h t (List.mem_of_mem_take ht)
  rw [take_snoc hT, cat_app, cat_one]
  constructor
  · intro f α b s
    obtain ⟨s1, s2⟩ := sol_app.mp s
    exact f α b (sol_app.mpr ⟨(prj_sol (cm_asc Ts k) p b).mpr ⟨α, b, s1, fun _ _ => rfl⟩, s2⟩)
  · intro f β b s
    obtain ⟨s1, s2⟩ := sol_app.mp s
    obtain ⟨α, bα, sα, ag⟩ := (prj_sol (cm_asc Ts k) p b).mp s1
    have bγ : B01 fun n => if hasN (Ts.take k) n = true then α n else β n := fun n => by
      show (if hasN (Ts.take k) n = true then α n else β n) = 0 ∨ (if hasN (Ts.take k) n = true then α n else β n) = 1
      split
      · exact bα n
      · exact b n
    have gT : ∀ n ∈ T.1, (if hasN (Ts.take k) n = true then α n else β n) = β n := fun n hn => by
      by_cases q : hasN (Ts.take k) n = true
      · rw [if_pos q]
        exact ag n (mem_cm.mpr ⟨(h T hTm).sub n hn, q, hasN_iff.mpr ⟨T, by rw [drop_at hT]; exact List.mem_cons_self .., hn⟩⟩)
      · rw [if_neg q]
    obtain ⟨l, hl, e⟩ := f (fun n => if hasN (Ts.take k) n = true then α n else β n) bγ (sol_app.mpr ⟨(sol_agree (cat_cv hk) fun n hn => (if_pos (List.mem_filter.mp hn).2).symm).mp sα, (sol_agree (h T hTm).cv gT).mpr s2⟩)
    refine ⟨l, hl, ?_⟩
    have e : (if hasN (Ts.take k) l.1 = true then α l.1 else β l.1) = l.2 := e
    rcases hc l hl with q | q
    · rw [if_pos (mem_cm.mp q).2.1, ag _ q] at e; exact e
    · rw [gT _ q] at e; exact e
theorem nf_conv {ns : List Str} {cs cs' L : List Cla} (h : NF ns cs L) (e : ∀ c, CV ns c → (Fol cs c ↔ Fol cs' c)) : NF ns cs' L := by
  refine ⟨h.1, fun c => ?_⟩
  rw [h.2 c]
  by_cases hc : CV ns c
  · rw [pi_iff hc, pi_iff hc, e c hc]
    exact and_congr_right fun _ => forall_congr' fun k => imp_congr_right fun hk => by rw [e _ (cv_cut hc hk)]
  · exact ⟨fun z => absurd z.1 hc, fun z => absurd z.1 hc⟩
theorem left_ret {ns seen : List Str} {cs : List Cla} {ys : List Str} {t : Th} (ha : Asc ns) (h5 : ns.length ≤ 5) (hs : seen.Sublist ns) (hy : ∀ n ∈ ns, n ∉ ys ↔ n ∈ seen) (h : Left ns cs ys t) : Ret (f_Bits_normal () t) fun r => r.1 = seen ∧ NF seen cs r.2 := by
  have as : Asc seen := List.Pairwise.sublist hs ha
  have e1 : t.1 = seen := by
    rw [h.nm]
    exact Asc.ext (List.Pairwise.filter _ ha) as fun n => by
      rw [List.mem_filter, decide_eq_true_iff]
      exact ⟨fun ⟨z1, z2⟩ => (hy n z1).mp z2, fun z => ⟨hs.subset z, (hy n (hs.subset z)).mpr z⟩⟩
  obtain ⟨nm, E⟩ := t
  have e1 : nm = seen := e1
  subst e1
  exact ret_mono (normal_ok as (Nat.le_trans hs.length_le h5) h.len h.cv) fun r hr => ⟨hr.1, nf_conv hr.2 fun c hc => h.fol c fun l hl => (hy _ (hs.subset (hc.2 l hl).1)).mpr (hc.2 l hl).1⟩
theorem shadow_ret {ns seen shown : List Str} {cs : List Cla} (ha : Asc ns) (h5 : ns.length ≤ 5) (hl : cs.length ≤ 250) (hcs : ∀ c ∈ cs, CV ns c) (hs : seen.Sublist ns) (hm : ∀ n, n ∈ shown ↔ n ∈ seen) : Ret (f_shadow () (ns, cs) shown) fun r => r.1 = seen ∧ NF seen cs r.2 := by
  refine ret_noerr (ret_bind (ret_fold (fun pre t => Left ns cs (pre.filter fun n => decide (n ∉ shown)) t) (left0 hl hcs) ?_) fun t h => ?_)
  · rintro pre y post t e h
    have e : ns = pre ++ y :: post := e
    have nn : y ∉ pre := fun z => absurd (asc_snoc (e ▸ ha) y z) (slt_irrefl _)
    rw [List.filter_append]
    refine ret_if (fun z => ?_) fun z => ret_ok ?_
    · have z : y ∉ shown := by simpa using z
      have : [y].filter (fun n => decide (n ∉ shown)) = [y] := by simp [z]
      rw [this]
      exact ret_bind (elim1 ha h5 (by rw [e]; simp) (fun w => nn (List.mem_filter.mp w).1) h) fun t' h' => ret_lt (ret_ok h')
    · have z : y ∈ shown := by simpa using z
      have : [y].filter (fun n => decide (n ∉ shown)) = [] := by simp [z]
      rw [this, List.append_nil]; exact h
  · exact ret_bind (left_ret ha h5 hs (fun n hn => by rw [List.mem_filter, decide_eq_true_iff, hm n]; exact ⟨fun z => Classical.byContradiction fun w => z ⟨hn, w⟩, fun z w => w.2 z⟩) h) fun r hr => ret_ok hr
/-- what is due -/
def DueK (Ts : List Th) (k : Nat) (t : Th) : Prop := ∃ N, t = (cm Ts (k + 1), N) ∧ NF (cm Ts (k + 1)) (cat (Ts.take (k + 1))) N
def Due (Ts : List Th) : Option (List Th) → Prop
  | none => ∃ α, B01 α ∧ Sol (cat Ts) α
  | some L => (¬ ∃ α, B01 α ∧ Sol (cat Ts) α) ∧ L.length = Ts.length - 1 ∧ ∀ k t, L[k]? = some t → DueK Ts k t
theorem dueK_uniq {Ts : List Th} {k : Nat} {t t' : Th} (h : DueK Ts k t) (h' : DueK Ts k t') : t = t' := by
  obtain ⟨N, rfl, n1⟩ := h
  obtain ⟨N', rfl, n2⟩ := h'
  rw [nf_same n1 n2 fun _ _ => Iff.rfl]
theorem due_uniq {Ts : List Th} {o o' : Option (List Th)} (h : Due Ts o) (h' : Due Ts o') : o = o' := by
  cases o with
  | none => cases o' with
    | none => rfl
    | some L => exact absurd h h'.1
  | some L => cases o' with
    | none => exact absurd h' h.1
    | some L' =>
      congr 1
      apply List.ext_getElem?
      intro k
      by_cases hk : k < L.length
      · have hk' : k < L'.length := by rw [h'.2.1, ← h.2.1]; exact hk
        rw [List.getElem?_eq_getElem hk, List.getElem?_eq_getElem hk']
        rw [dueK_uniq (h.2.2 k _ (List.getElem?_eq_getElem hk)) (h'.2.2 k _ (List.getElem?_eq_getElem hk'))]
      · rw [List.getElem?_eq_none (by omega), List.getElem?_eq_none (by rw [h'.2.1, ← h.2.1]; omega)]
theorem cut_neg {α : Type} {xs : List α} {m : Nat} (hm : 0 < m) (h : m ≤ xs.length) : pcut xs (some (-(m : Int))) none = xs.drop (xs.length - m) := by
  unfold pcut
  have e : HT.sIx xs.length 0 (some (-(m : Int))) = xs.length - m := by
    show (if -(m : Int) < 0 then (-(m : Int) + (xs.length : Int)).toNat else min (-(m : Int)).toNat xs.length) = _
    rw [if_pos (by omega)]; omega
  rw [e, HT.sIx_none]
  exact List.take_of_length_le (by rw [List.length_drop]; exact Nat.le_refl _)
theorem snoc_get {α : Type} {xs : List α} {x y : α} {k : Nat} (h : (xs ++ [x])[k]? = some y) : xs[k]? = some y ∨ k = xs.length ∧ y = x := by
  by_cases z : k < xs.length
  · rw [List.getElem?_append_left z] at h; exact .inl h
  · have := (List.getElem?_eq_some_iff.mp h).1
    simp at this
    have ek : k = xs.length := by omega
    subst ek
    rw [List.getElem?_append_right (Nat.le_refl _), Nat.sub_self] at h
    cases h
    exact .inr ⟨rfl, rfl⟩
theorem cm_step {Ts : List Th} (h : ∀ t ∈ Ts, ThOk t) {k : Nat} {T : Th} (hT : Ts[k]? = some T) (L : List Cla) : ((nmT [(cm Ts k, L), T]).filter fun q2 => decide (q2 ∈ nmT (Ts.drop (k + 1)))) = cm Ts (k + 1) := by
  have hd : ∀ t ∈ Ts.drop (k + 1), ThOk t := fun t ht => h t (List.mem_of_mem_drop ht)
  refine Asc.ext (List.Pairwise.filter _ (nmT_asc _)) (cm_asc _ _) fun n => ?_
  rw [List.mem_filter, decide_eq_true_iff, mem_cm]
  unfold nmT
  rw [List.mem_filter, List.mem_filter, hasN_iff (Ts := [(cm Ts k, L), T]), take_snoc hT]
  constructor
  · rintro ⟨⟨q1, u, q2, q3⟩, _, q4⟩
    refine ⟨q1, ?_, q4⟩
    rcases List.mem_cons.mp q2 with rfl | q2
    · obtain ⟨t, ht, e⟩ := hasN_iff.mp (mem_cm.mp q3).2.1
      exact hasN_iff.mpr ⟨t, List.mem_append_left _ ht, e⟩
    · rw [List.mem_singleton.mp q2] at q3
      exact hasN_iff.mpr ⟨T, by simp, q3⟩
  · rintro ⟨q1, q2, q4⟩
    refine ⟨⟨q1, ?_⟩, q1, q4⟩
    obtain ⟨t, ht, e⟩ := hasN_iff.mp q2
    rcases List.mem_append.mp ht with ht | ht
    · refine ⟨(cm Ts k, L), by simp, mem_cm.mpr ⟨q1, hasN_iff.mpr ⟨t, ht, e⟩, ?_⟩⟩
      obtain ⟨u, hu, e2⟩ := hasN_iff.mp q4
      exact hasN_iff.mpr ⟨u, by rw [drop_at hT]; exact List.mem_cons_of_mem _ hu, e2⟩
    · rw [List.mem_singleton.mp ht] at e
      exact ⟨T, by simp, e⟩
theorem nosol {cs : List Cla} : Fol cs [] ↔ ¬ ∃ α, B01 α ∧ Sol cs α :=
  ⟨fun f ⟨α, b, s⟩ => by obtain ⟨l, hl, _⟩ := f α b s; simp at hl, fun h α b s => absurd ⟨α, b, s⟩ h⟩
theorem middles_ok {Ts : List Th} (h : ∀ t ∈ Ts, ThOk t) (h4 : Ts.length ≤ 4) : Ret (f_middles () Ts) (Due Ts) := by
  have tOk : ∀ t ∈ Ts, Asc t.1 ∧ (∀ n ∈ t.1, n ∈ pool5) ∧ t.2.length ≤ 243 := fun t ht => ⟨(h t ht).asc, (h t ht).sub, by have := (h t ht).len; omega⟩
  refine ret_noerr (ret_lt (ret_lt (ret_eq (guard_ok (by omega)) (ret_bind (ret_fold (fun pre (s : Th × List Th) => s.1.1 = cm Ts pre.length ∧ Prj (cm Ts pre.length) s.1.2 (cat (Ts.take pre.length)) ∧ s.1.2.length ≤ 243 ∧ s.2.length = pre.length ∧ ∀ k t, s.2[k]? = some t → DueK Ts k t) ⟨(cm_zero Ts).symm, ⟨fun c hc => by simp at hc, fun c _ => Iff.rfl⟩, Nat.zero_le _, rfl, fun k t e => by simp at e⟩ ?_) fun s hs => ?_))))
  · rintro pre q post ⟨⟨nm, L⟩, found⟩ e ⟨i1, i2, i3, i4, i5⟩
    obtain ⟨rfl, hk⟩ := rng_at e
    have hk : pre.length + 1 < Ts.length := by omega
    have i1 : nm = cm Ts pre.length := i1
    subst i1
    have i2 : Prj (cm Ts pre.length) L (cat (Ts.take pre.length)) := i2
    have i3 : L.length ≤ 243 := i3
    obtain ⟨T, hT⟩ : ∃ T, Ts[pre.length]? = some T := ⟨_, List.getElem?_eq_getElem (by omega)⟩
    have hTm : T ∈ Ts := List.mem_of_getElem? hT
    have c2 : cat [(cm Ts pre.length, L), T] = L ++ T.2 := by unfold cat; simp
    have j1 : f_join [(cm Ts pre.length, L), T] = .ok (nmT [(cm Ts pre.length, L), T], L ++ T.2) := by
      rw [← c2]
      refine joinL (fun t ht => ?_) (by simp)
      rcases List.mem_cons.mp ht with rfl | ht
      · exact ⟨cm_asc _ _, cm_pool, i3⟩
      · rw [List.mem_singleton.mp ht]; exact tOk T hTm
    have e1 : ((pre.length : Nat) : Int) + 1 = ((pre.length + 1 : Nat) : Int) := by omega
    have j2 : f_join (pcut Ts (some ((pre.length : Int) + 1)) none) = .ok (nmT (Ts.drop (pre.length + 1)), cat (Ts.drop (pre.length + 1))) := by
      rw [e1, cut_at (by omega)]
      exact joinL (fun t ht => tOk t (List.mem_of_mem_drop ht)) (by rw [List.length_drop]; omega)
    have ms : ∀ n ∈ cm Ts pre.length, n ∈ nmT [(cm Ts pre.length, L), T] := fun n hn => List.mem_filter.mpr ⟨cm_pool n hn, hasN_iff.mpr ⟨_, List.mem_cons_self .., hn⟩⟩
    have mt : ∀ n ∈ T.1, n ∈ nmT [(cm Ts pre.length, L), T] := fun n hn => List.mem_filter.mpr ⟨(h T hTm).sub n hn, hasN_iff.mpr ⟨T, by simp, hn⟩⟩
    have cvj : ∀ c ∈ L ++ T.2, CV (nmT [(cm Ts pre.length, L), T]) c := fun c hc => (List.mem_append.mp hc).elim (fun z => cv_mono (i2.cv c z) ms) fun z => cv_mono ((h T hTm).cv c z) mt
    have len : (L ++ T.2).length ≤ 250 := by rw [List.length_append]; have := (h T hTm).len; omega
    have ep : pidx Ts (pre.length : Int) = .ok T := pidx_nat hT
    refine ret_eq ep (ret_eq j1 (ret_lt (ret_eq j2 (ret_lt ?_))))
    show Ret ((f_shadow () (nmT [(cm Ts pre.length, L), T], L ++ T.2) (((nmT [(cm Ts pre.length, L), T]).filter fun q2 => decide (q2 ∈ nmT (Ts.drop (pre.length + 1)))).map fun q2 => q2)).bind _) _
    rw [List.map_id', cm_step h hT L]
    have sub : (cm Ts (pre.length + 1)).Sublist (nmT [(cm Ts pre.length, L), T]) := by rw [← cm_step h hT L]; exact List.filter_sublist
    refine ret_bind (shadow_ret (nmT_asc _) (nmT_5 _) len cvj sub fun n => Iff.rfl) fun r hr => ret_lt (ret_eq (psnoc_ok (by show found.length < 100000; have i4 : found.length = pre.length := i4; omega)) (ret_ok ?_))
    obtain ⟨rn, rc⟩ := r
    have r1 : rn = cm Ts (pre.length + 1) := hr.1
    subst r1
    have nf : NF (cm Ts (pre.length + 1)) (cat (Ts.take (pre.length + 1))) rc := nf_conv hr.2 fun c hc => step_fol h hT i2 fun l hl => by
      have := (mem_cm.mp (hc.2 l hl).1)
      rw [take_snoc hT] at this
      obtain ⟨t, ht, e⟩ := hasN_iff.mp this.2.1
      rcases List.mem_append.mp ht with ht | ht
      · obtain ⟨u, hu, e2⟩ := hasN_iff.mp this.2.2
        exact .inl (mem_cm.mpr ⟨this.1, hasN_iff.mpr ⟨t, ht, e⟩, hasN_iff.mpr ⟨u, by rw [drop_at hT]; exact List.mem_cons_of_mem _ hu, e2⟩⟩)
      · rw [List.mem_singleton.mp ht] at e; exact .inr e
    have pl : (pre ++ [(pre.length : Int)]).length = pre.length + 1 := by simp
    rw [pl]
    refine ⟨rfl, prj_of_nf nf, (nf_len (cm_asc _ _) (cm_5 _ _) nf).1, by show (found ++ [_]).length = _; have i4 : found.length = pre.length := i4; rw [List.length_append]; simp [i4], fun k t hk => ?_⟩
    rcases snoc_get hk with hk | ⟨ek, rfl⟩
    · exact i5 k t hk
    · have i4 : found.length = pre.length := i4
      rw [ek, i4]; exact ⟨rc, rfl, nf⟩
  · obtain ⟨⟨nm, L⟩, found⟩ := s
    obtain ⟨i1, i2, i3, i4, i5⟩ := hs
    rw [rng_len] at i1 i2 i4
    have ej : ((Ts.length : Int) - 1).toNat = Ts.length - 1 := by omega
    rw [ej] at i1 i2 i4
    have i1 : nm = cm Ts (Ts.length - 1) := i1
    subst i1
    have i2 : Prj (cm Ts (Ts.length - 1)) L (cat (Ts.take (Ts.length - 1))) := i2
    have i3 : L.length ≤ 243 := i3
    have i4 : found.length = Ts.length - 1 := i4
    -- the last join
    have last : ∃ S, (S = [] ∧ Ts = [] ∨ ∃ T, S = [T] ∧ Ts[Ts.length - 1]? = some T) ∧ pcut Ts (some (-(1 : Int))) none = S := by
      by_cases z : Ts = []
      · exact ⟨[], .inl ⟨rfl, z⟩, by rw [z]; rfl⟩
      · have hl : 0 < Ts.length := List.length_pos_iff.mpr z
        obtain ⟨T, hT⟩ : ∃ T, Ts[Ts.length - 1]? = some T := ⟨_, List.getElem?_eq_getElem (by omega)⟩
        refine ⟨[T], .inr ⟨T, rfl, hT⟩, ?_⟩
        have := cut_neg (xs := Ts) (m := 1) (by omega) (by omega)
        rw [show (-(1 : Int)) = -((1 : Nat) : Int) from rfl, this, drop_at hT, show Ts.length - 1 + 1 = Ts.length by omega, List.drop_length]
    obtain ⟨S, hS, eS⟩ := last
    have sOk : ∀ t ∈ S, Asc t.1 ∧ (∀ n ∈ t.1, n ∈ pool5) ∧ t.2.length ≤ 7 ∧ ∀ c ∈ t.2, CV t.1 c := fun t ht => by
      rcases hS with ⟨rfl, _⟩ | ⟨T, rfl, hT⟩
      · simp at ht
      · rw [List.mem_singleton.mp ht]
        have := h T (List.mem_of_getElem? hT)
        exact ⟨this.asc, this.sub, this.len, this.cv⟩
    have sl : S.length ≤ 1 := by rcases hS with ⟨rfl, _⟩ | ⟨T, rfl, _⟩ <;> simp
    have key : Fol (cat ([(cm Ts (Ts.length - 1), L)] ++ S)) [] ↔ Fol (cat Ts) [] := by
      rcases hS with ⟨rfl, rfl⟩ | ⟨T, rfl, hT⟩
      · have : cat ([(cm [] (List.length ([] : List Th) - 1), L)] ++ []) = L := by unfold cat; simp
        rw [this]
        exact i2.fol [] cv_nil
      · have : cat ([(cm Ts (Ts.length - 1), L)] ++ [T]) = L ++ T.2 := by unfold cat; simp
        have hl : 0 < Ts.length := Nat.lt_of_le_of_lt (Nat.zero_le _) (List.getElem?_eq_some_iff.mp hT).1
        rw [this, step_fol h hT i2 (c := []) (fun l hl => by simp at hl), show Ts.length - 1 + 1 = Ts.length by omega, List.take_length]
    have cvS : ∀ c ∈ cat ([(cm Ts (Ts.length - 1), L)] ++ S), CV (nmT ([(cm Ts (Ts.length - 1), L)] ++ S)) c := fun c hc => by
      obtain ⟨t, ht, hc⟩ := List.mem_flatMap.mp hc
      have up : ∀ n ∈ t.1, n ∈ pool5 → n ∈ nmT ([(cm Ts (Ts.length - 1), L)] ++ S) := fun n hn hp => List.mem_filter.mpr ⟨hp, hasN_iff.mpr ⟨t, ht, hn⟩⟩
      rcases List.mem_append.mp ht with ht | ht
      · rw [List.mem_singleton.mp ht] at hc up
        exact cv_mono (i2.cv c hc) fun n hn => up n hn (cm_pool n hn)
      · exact cv_mono ((sOk t ht).2.2.2 c hc) fun n hn => up n hn ((sOk t ht).2.1 n hn)
    have lenS : (cat ([(cm Ts (Ts.length - 1), L)] ++ S)).length ≤ 250 := by
      rcases hS with ⟨rfl, _⟩ | ⟨T, rfl, hT⟩
      · unfold cat; simp; omega
      · have := (sOk T (by simp)).2.2.1
        unfold cat; simp; omega
    rw [eS]
    refine ret_eq (if_pos (by rw [List.length_append]; simp; omega) : pfit _ = _) (ret_eq (joinL (fun t ht => ?_) (by rw [List.length_append]; simp; omega)) (ret_bind (solve_ok (nmT_asc _) (nmT_5 _) lenS cvS) fun o ho => ?_))
    · rcases List.mem_append.mp ht with ht | ht
      · rw [List.mem_singleton.mp ht]; exact ⟨cm_asc _ _, cm_pool, i3⟩
      · have := sOk t ht; exact ⟨this.1, this.2.1, by omega⟩
    · cases o with
      | none =>
        refine ret_if (fun z => nomatch z) fun _ => ret_ok ⟨nosol.mp (key.mp (nosol.mpr fun ⟨α, b, s⟩ => ho α b s)), i4, i5⟩
      | some d =>
        refine ret_if (fun _ => ret_ok ?_) fun z => absurd rfl z
        exact Classical.byContradiction fun z => nosol.mp (key.mpr (nosol.mpr z)) ⟨_, vl_b ho.1, ho.2⟩
/-! ### what the law works out -/
theorem lnames_ok {S : List Th} (h : ∀ t ∈ S, Asc t.1 ∧ ∀ n ∈ t.1, n ∈ pool5) : f__law_names S = .ok (nmT S) := by
  refine ret_to (ret_noerr (ret_lt (ret_bind (ret_fold (fun pre (s : List Str) => s.Nodup ∧ (∀ n ∈ s, n ∈ pool5) ∧ ∀ n, n ∈ s ↔ ∃ t ∈ pre, n ∈ t.1) ⟨List.nodup_nil, by simp, by simp⟩ ?_) fun s hs => ?_)))
  · rintro pre t post s e ⟨i1, i2, i3⟩
    obtain ⟨_, h2⟩ := h t (by rw [e]; simp)
    refine ret_bind (ret_fold (fun pre2 (s2 : List Str) => s2.Nodup ∧ (∀ n ∈ s2, n ∈ pool5) ∧ ∀ n, n ∈ s2 ↔ n ∈ s ∨ n ∈ pre2) ⟨i1, i2, by simp⟩ ?_) fun s2 hs2 => ret_ok ⟨hs2.1, hs2.2.1, fun n => ?_⟩
    · rintro pre2 n post2 s2 e2 ⟨j1, j2, j3⟩
      have hn : n ∈ pool5 := h2 n (by rw [e2]; simp)
      have l5 : s2.length ≤ 5 := nodup_le j1 j2
      refine ret_if (fun z => ?_) fun z => ret_ok ⟨j1, j2, fun m => ?_⟩
      · have z : n ∉ s2 := by simpa using z
        refine ret_eq (psnoc_ok (by omega)) (ret_ok ⟨List.nodup_append.mpr ⟨j1, by simp, fun a hA b hB e => z (by rw [List.mem_singleton.mp hB] at e; exact e ▸ hA)⟩, fun m hm => ?_, fun m => ?_⟩)
        · rcases List.mem_append.mp hm with hm | hm
          · exact j2 m hm
          · rw [List.mem_singleton.mp hm]; exact hn
        · rw [List.mem_append, List.mem_append, j3 m, or_assoc]
      · have z : n ∈ s2 := by simpa using z
        rw [List.mem_append, ← or_assoc, ← j3 m]
        exact ⟨.inl, fun q => q.elim id fun q => by rw [List.mem_singleton.mp q]; exact z⟩
    · rw [hs2.2.2 n, i3 n]
      constructor
      · rintro (⟨t', h1, h2⟩ | h1)
        · exact ⟨t', List.mem_append_left _ h1, h2⟩
        · exact ⟨t, by simp, h1⟩
      · rintro ⟨t', h1, h2⟩
        rcases List.mem_append.mp h1 with h1 | h1
        · exact .inl ⟨t', h1, h2⟩
        · rw [List.mem_singleton.mp h1] at h2; exact .inr h2
  · have l5 : s.length ≤ 5 := nodup_le hs.1 hs.2.1
    refine ret_eq (psortS_ok (by omega)) (ret_ok ?_)
    refine Asc.ext (asc_sortS hs.1) (nmT_asc S) fun n => ?_
    rw [mem_sortS, hs.2.2 n]
    unfold nmT
    rw [List.mem_filter, hasN_iff]
    exact ⟨fun ⟨t, h1, h2⟩ => ⟨(h t h1).2 n h2, t, h1, h2⟩, fun z => z.2⟩
theorem lrows_ok {ns : List Str} (ha : Asc ns) (hl : ns.length ≤ 5) : Ret (f__law_rows (ns.length : Int)) fun R => R.length ≤ 32 ∧ ∀ r, r ∈ R ↔ ∃ α, B01 α ∧ r = ns.map α := by
  refine ret_noerr (ret_lt (ret_eq (guard_ok (by omega)) (ret_bind (ret_fold (fun pre (s : List (List Int)) => s.length = 2 ^ pre.length ∧ ∀ r, r ∈ s ↔ ∃ α, B01 α ∧ r = (ns.take pre.length).map α) ⟨rfl, fun r => ?_⟩ ?_) fun s hs => ret_ok ?_)))
  · rw [List.mem_singleton]
    exact ⟨fun h => ⟨fun _ => 0, fun _ => .inl rfl, by simpa using h⟩, fun ⟨α, _, h⟩ => by simpa using h⟩
  · rintro pre q post s e ⟨i1, i2⟩
    obtain ⟨_, hk⟩ := rng_at e
    have hk : pre.length < ns.length := by simpa using hk
    obtain ⟨n, hn⟩ : ∃ n, ns[pre.length]? = some n := ⟨_, List.getElem?_eq_getElem hk⟩
    have tk : ns.take (pre.length + 1) = ns.take pre.length ++ [n] := by rw [List.take_add_one, hn]; rfl
    have nn : n ∉ ns.take pre.length := fun z => by
      have : Asc (ns.take (pre.length + 1)) := take_asc ha _
      rw [tk] at this
      exact slt_irrefl n (asc_snoc this n z)
    have p16 : 2 ^ pre.length ≤ 16 := Nat.pow_le_pow_right (n := 2) (i := pre.length) (j := 4) (by omega) (by omega)
    have l5 : ∀ r ∈ s, r.length ≤ 5 := fun r hr => by
      obtain ⟨α, _, rfl⟩ := (i2 r).mp hr
      rw [List.length_map, List.length_take]; omega
    have ext : ∀ v : Int, pml (fun q2 : List Int => (((pcat q2 ([v] : (List Int))).bind fun r2 => .ok (some (q2 ++ ([v] : (List Int))))) : Res (Option (List Int)))) s = .ok (s.map fun r => r ++ [v]) := fun v => pml_map fun r hr => by
      rw [pcat_ok (by have := l5 r hr; simp; omega), bind_ok]
    refine ret_eq (ext 0) (ret_eq (ext 1) (ret_eq (pcat_ok (by simp; omega)) (ret_lt (ret_ok ⟨?_, fun r => ?_⟩))))
    · rw [List.length_append, List.length_map, List.length_map, i1, List.length_append, List.length_singleton, Nat.pow_succ]; omega
    · rw [List.length_append, List.length_singleton, tk, List.mem_append, List.mem_map, List.mem_map]
      constructor
      · have go : ∀ v : Int, (v = 0 ∨ v = 1) → (∃ a ∈ s, a ++ [v] = r) → ∃ α, B01 α ∧ r = (ns.take pre.length ++ [n]).map α := fun v hv ⟨a, h1, h2⟩ => by
          obtain ⟨α, b, rfl⟩ := (i2 a).mp h1
          refine ⟨upA α n v, upA_b b hv, ?_⟩
          rw [← h2, List.map_append]
          congr 1
          · exact List.map_congr_left fun m hm => by rw [upA_ne (y := n) (n := m) fun z => nn (z ▸ hm)]
          · simp [upA_eq]
        rintro (h | h)
        · exact go 0 (.inl rfl) h
        · exact go 1 (.inr rfl) h
      · rintro ⟨α, b, rfl⟩
        have hm : (ns.take pre.length).map α ∈ s := (i2 _).mpr ⟨α, b, rfl⟩
        rw [List.map_append]
        rcases b n with v | v
        · exact .inl ⟨_, hm, by simp [v]⟩
        · exact .inr ⟨_, hm, by simp [v]⟩
  · rw [rng_len] at hs
    have e : ((ns.length : Int)).toNat = ns.length := by omega
    rw [e, List.take_length] at hs
    exact ⟨by rw [hs.1]; exact Nat.pow_le_pow_right (n := 2) (j := 5) (by omega) hl, hs.2⟩
/-- kept, by the places -/
def keptB (ns : List Str) (r : List Int) (cs : List Cla) : Bool := cs.all fun c => c.any fun l => decide (r[ns.idxOf l.1]? = some l.2)
theorem idx_at {ns : List Str} {n : Str} {α : Str → Int} (hn : n ∈ ns) : (ns.map α)[ns.idxOf n]? = some (α n) := by
  have lt : ns.idxOf n < ns.length := List.idxOf_lt_length_iff.mpr hn
  rw [List.getElem?_map, List.getElem?_eq_getElem lt, List.getElem_idxOf lt]; rfl
theorem pindex_ok {ns : List Str} {n : Str} (hn : n ∈ ns) : pindex ns n = .ok ((ns.idxOf n : Nat) : Int) := if_pos hn
theorem keptB_iff {ns ms : List Str} {cs : List Cla} {α : Str → Int} (hc : ∀ c ∈ cs, CV ms c) (hs : ∀ n ∈ ms, n ∈ ns) : keptB ns (ns.map α) cs = true ↔ Sol cs α := by
  unfold keptB Sol Tr
  rw [List.all_eq_true]
  refine forall_congr' fun c => imp_congr_right fun hm => ?_
  rw [List.any_eq_true]
  refine exists_congr fun l => and_congr_right fun hl => ?_
  rw [decide_eq_true_iff, idx_at (hs _ ((hc c hm).2 l hl).1)]
  simp
theorem kept_ok {ns ms : List Str} {cs : List Cla} {r : List Int} (hr : r.length = ns.length) (hc : ∀ c ∈ cs, CV ms c) (hs : ∀ n ∈ ms, n ∈ ns) : f__law_kept ns r cs = .ok (keptB ns r cs) := by
  unfold f__law_kept keptB
  have ef : ∀ c ∈ cs, pml (fun q2 : (Str × Int) => (((pindex ns q2.1).bind fun r1 => (pidx r r1).bind fun r2 => (if (decide (r2 = q2.2)) then .ok (some q2) else .ok none)) : Res (Option (Str × Int)))) c = .ok (c.filter fun l => decide (r[ns.idxOf l.1]? = some l.2)) := fun c hm => pml_filter fun l hl => by
    have hn := hs _ ((hc c hm).2 l hl).1
    have lt : ns.idxOf l.1 < r.length := by rw [hr]; exact List.idxOf_lt_length_iff.mpr hn
    rw [pindex_ok hn, bind_ok, pidx_nat (List.getElem?_eq_getElem lt), bind_ok, List.getElem?_eq_getElem lt]
    by_cases e : r[ns.idxOf l.1] = l.2
    · simp [e]
    · simp [e]
  rw [pall fun c : Cla => c.any fun l => decide (r[ns.idxOf l.1]? = some l.2)]
  · rfl
  · intro c hm
    rw [ef c hm, bind_ok]
    have : ((((c.filter fun l => decide (r[ns.idxOf l.1]? = some l.2)).length : Int) = (0 : Int))) ↔ ¬ (c.any fun l => decide (r[ns.idxOf l.1]? = some l.2)) = true := by
      have e0 : (((c.filter fun l => decide (r[ns.idxOf l.1]? = some l.2)).length : Int) = 0) ↔ c.filter (fun l => decide (r[ns.idxOf l.1]? = some l.2)) = [] := by
        rw [← List.length_eq_zero_iff]; omega
      rw [e0, List.filter_eq_nil_iff, List.any_eq_true]
      exact ⟨fun h ⟨l, h1, h2⟩ => h l h1 h2, fun h l h1 h2 => h ⟨l, h1, h2⟩⟩
    cases q : c.any fun l => decide (r[ns.idxOf l.1]? = some l.2) with
    | true => rw [if_neg (by rw [decide_eq_true_iff, this, q]; simp)]; rfl
    | false => rw [if_pos (by rw [decide_eq_true_iff, this, q]; simp)]; rfl
theorem lclauses_ok {ns : List Str} (ha : Asc ns) (hl : ns.length ≤ 5) : Ret (f__law_clauses ns) fun L => L.length ≤ 243 ∧ L.Nodup ∧ (∀ c, c ∈ L ↔ CV ns c) ∧ L.Pairwise fun a b => a.length ≤ b.length := by
  refine ret_noerr (ret_lt (ret_bind (ret_fold (fun pre (s : List Cla) => s.length = 3 ^ pre.length ∧ s.Nodup ∧ ∀ c, c ∈ s ↔ CV pre c) ⟨rfl, by simp, fun c => ?_⟩ ?_) fun s hs => ret_ok ?_))
  · rw [List.mem_singleton]
    constructor
    · rintro rfl; exact cv_nil
    · rintro ⟨_, h⟩
      cases c with
      | nil => rfl
      | cons l c => have := (h l (List.mem_cons_self ..)).1; simp at this
  · rintro pre n post s e ⟨i1, i0, i2⟩
    have hn : pre.length + 1 ≤ 5 := by have := congrArg List.length e; simp at this; omega
    have p81 : 3 ^ pre.length ≤ 81 := Nat.pow_le_pow_right (n := 3) (i := pre.length) (j := 4) (by omega) (by omega)
    have sl := asc_snoc (e ▸ ha)
    have out : ∀ c ∈ s, ∀ v, (n, v) ∉ c := fun c hc v z => slt_irrefl n (sl n (((i2 c).mp hc).2 _ z).1)
    have ext : ∀ v : Int, pml (fun q2 : Cla => (((pcat q2 ([(n, v)] : Cla)).bind fun r1 => .ok (some (q2 ++ ([(n, v)] : Cla)))) : Res (Option Cla))) s = .ok (s.map fun c => c ++ [(n, v)]) := fun v => pml_map fun c hc => by
      rw [pcat_ok (by have := cv_len4 ((i2 c).mp hc) (by omega); simp; omega), bind_ok]
    have inj : ∀ {a b : Cla} {v u : Int}, a ++ [(n, v)] = b ++ [(n, u)] → a = b ∧ v = u := fun h => by
      obtain ⟨h1, h2⟩ := List.append_inj' h rfl
      exact ⟨h1, by simpa using h2⟩
    have ndm : ∀ v : Int, (s.map fun c => c ++ [(n, v)]).Nodup := fun v => List.pairwise_map.mpr (i0.imp fun ne e => ne (inj e).1)
    refine ret_eq (ext 0) (ret_eq (pcat_ok (by simp; omega)) (ret_eq (ext 1) (ret_eq (pcat_ok (by simp; omega)) (ret_lt (ret_ok ⟨?_, ?_, fun c => ?_⟩)))))
    · rw [List.length_append, List.length_append, List.length_map, List.length_map, i1, List.length_append, List.length_singleton, Nat.pow_succ]; omega
    · refine List.nodup_append.mpr ⟨List.nodup_append.mpr ⟨i0, ndm 0, fun a hA b hB e => ?_⟩, ndm 1, fun a hA b hB e => ?_⟩
      · obtain ⟨c, hc, rfl⟩ := List.mem_map.mp hB
        exact out a hA 0 (by rw [e]; simp)
      · obtain ⟨c, hc, rfl⟩ := List.mem_map.mp hB
        rcases List.mem_append.mp hA with hA | hA
        · exact out a hA 1 (by rw [e]; simp)
        · obtain ⟨c', hc', rfl⟩ := List.mem_map.mp hA
          have := (inj e).2; simp at this
    · rw [cv_snoc sl, List.mem_append, List.mem_append, List.mem_map, List.mem_map, i2 c]
      constructor
      · rintro ((h | ⟨c', h1, rfl⟩) | ⟨c', h1, rfl⟩)
        · exact .inl h
        · exact .inr ⟨c', 0, (i2 c').mp h1, .inl rfl, rfl⟩
        · exact .inr ⟨c', 1, (i2 c').mp h1, .inr rfl, rfl⟩
      · rintro (h | ⟨c', v, h1, rfl | rfl, h3⟩)
        · exact .inl (.inl h)
        · exact .inl (.inr ⟨c', (i2 c').mpr h1, h3.symm⟩)
        · exact .inr ⟨c', (i2 c').mpr h1, h3.symm⟩
  · have pm : (sortLen s).Perm s := List.mergeSort_perm ..
    have pw : (sortLen s).Pairwise fun a b => a.length ≤ b.length := by
      have := List.pairwise_mergeSort (le := fun a b : Cla => decide (a.length ≤ b.length)) (fun a b c h1 h2 => by simp at *; omega) (fun a b => by simp; omega) s
      exact this.imp fun h => by simpa using h
    exact ⟨by rw [pm.length_eq, hs.1]; exact Nat.pow_le_pow_right (n := 3) (j := 5) (by omega) hl, pm.nodup_iff.mpr hs.2.1, fun c => by rw [pm.mem_iff]; exact hs.2.2 c, pw⟩
/-- the normal form, by the rows -/
theorem lnormal_ok {ns : List Str} {M : List Cla} {rows : List (List Int)} (ha : Asc ns) (hl : ns.length ≤ 5) (hr : ∀ r, r ∈ rows ↔ ∃ α, B01 α ∧ Sol M α ∧ r = ns.map α) : Ret (f__law_normal ns rows) fun r => r.1 = ns ∧ NF ns M r.2 := by
  refine ret_noerr (ret_lt (ret_bind (lclauses_ok ha hl) fun al ⟨a1, a0, a2, a3⟩ => ret_bind (ret_fold (fun pre (t : List Cla) => t.Sublist pre ∧ ∀ c, c ∈ t ↔ c ∈ pre ∧ PI ns M c) ⟨List.Sublist.refl _, by simp⟩ ?_) fun t ht => ret_eq psortB_ok (ret_ok ⟨rfl, sortB_asc stot_cla (List.Sublist.nodup ht.1 a0), fun c => ?_⟩)))
  · rintro pre c post t e ⟨i1, i2⟩
    have hc : CV ns c := (a2 c).mp (by rw [e]; simp)
    have np : c ∉ pre := fun z => by
      rw [e] at a0
      exact (List.nodup_append.mp a0).2.2 _ z _ (List.mem_cons_self ..) rfl
    have hp : pre.length < 243 := by have := congrArg List.length e; simp at this; omega
    refine ret_lt (ret_bind (ret_fold (fun pre2 (b : Bool) => b = true ↔ ∃ d ∈ pre2, ∀ l ∈ d, l ∈ c) (by simp) ?_) fun b hb => ?_)
    · rintro pre2 d post2 b e2 i
      have key : ((((d.filter fun q3 => (!pin q3 c)).map fun q3 => q3).length : Int) = (0 : Int)) ↔ ∀ l ∈ d, l ∈ c := by
        rw [List.map_id']
        have e0 : (((d.filter fun q3 => (!pin q3 c)).length : Int) = 0) ↔ d.filter (fun q3 => (!pin q3 c)) = [] := by
          rw [← List.length_eq_zero_iff]; omega
        rw [e0, List.filter_eq_nil_iff]
        exact forall_congr' fun l => imp_congr_right fun _ => by rw [← pin_iff]; cases pin l c <;> simp
      refine ret_if (fun z => ret_lt (ret_ok ?_)) fun z => ret_ok ?_
      · have := key.mp (of_decide_eq_true z)
        exact ⟨fun _ => ⟨d, by simp, this⟩, fun _ => rfl⟩
      · have z : ¬ ∀ l ∈ d, l ∈ c := fun w => z (decide_eq_true (key.mpr w))
        rw [i]
        constructor
        · rintro ⟨d', h1, h2⟩; exact ⟨d', List.mem_append_left _ h1, h2⟩
        · rintro ⟨d', h1, h2⟩
          rcases List.mem_append.mp h1 with h1 | h1
          · exact ⟨d', h1, h2⟩
          · rw [List.mem_singleton.mp h1] at h2; exact absurd h2 z
    · have rl : ∀ r ∈ rows, r.length = ns.length := fun r hm => by
        obtain ⟨α, _, _, rfl⟩ := (hr r).mp hm
        rw [List.length_map]
      have c1 : ∀ d ∈ [c], CV ns d := fun d hd => by rw [List.mem_singleton.mp hd]; exact hc
      have ef : pml (fun q4 : List Int => (((f__law_kept ns q4 ([c] : List Cla)).bind fun r2 => (if (!r2) then .ok (some q4) else .ok none)) : Res (Option (List Int)))) rows = .ok (rows.filter fun r => !keptB ns r [c]) := pml_filter fun r hm => by
        rw [kept_ok (rl r hm) c1 fun _ h => h, bind_ok]
        cases keptB ns r [c] <;> rfl
      have fol : (((rows.filter fun r => !keptB ns r [c]).length : Int) = 0) ↔ Fol M c := by
        have e0 : (((rows.filter fun r => !keptB ns r [c]).length : Int) = 0) ↔ rows.filter (fun r => !keptB ns r [c]) = [] := by
          rw [← List.length_eq_zero_iff]; omega
        rw [e0, List.filter_eq_nil_iff]
        constructor
        · intro h α b s
          have := h _ ((hr _).mpr ⟨α, b, s, rfl⟩)
          have : keptB ns (ns.map α) [c] = true := by simpa using this
          exact (keptB_iff c1 fun _ h => h).mp this c (by simp)
        · intro f r hm
          obtain ⟨α, b, s, rfl⟩ := (hr r).mp hm
          have : keptB ns (ns.map α) [c] = true := (keptB_iff c1 fun _ h => h).mpr fun d hd => by rw [List.mem_singleton.mp hd]; exact f α b s
          rw [this]; simp
      have main : PI ns M c ↔ b = false ∧ Fol M c := by
        constructor
        · intro p
          refine ⟨?_, p.2.1⟩
          cases b with
          | false => rfl
          | true =>
            obtain ⟨d, hd, hdc⟩ := hb.mp rfl
            obtain ⟨h1, h2⟩ := (i2 d).mp hd
            have : d = c := cla_ext h2.1.1 hc.1 fun l => ⟨hdc l, p.2.2 d hdc h2.2.1 l⟩
            exact absurd (this ▸ h1) np
        · rintro ⟨hb0, f⟩
          obtain ⟨d, h1, h2⟩ := pi_in (Nat.le_refl _) hc f
          by_cases ed : d = c
          · rw [← ed]; exact h1
          · have lt : d.length < c.length := Classical.byContradiction fun z => ed (cla_ext h1.1.1 hc.1 fun l => ⟨h2 l, sub_len (cla_nodup h1.1.1) h2 (cla_nodup hc.1) (by omega) l⟩)
            have dm : d ∈ pre := by
              have : d ∈ al := (a2 d).mpr h1.1
              rw [e] at this a3
              rcases List.mem_append.mp this with w | w
              · exact w
              · rcases List.mem_cons.mp w with w | w
                · exact absurd w ed
                · have := (List.pairwise_cons.mp (List.pairwise_append.mp a3).2.1).1 d w
                  omega
            have := hb.mpr ⟨d, (i2 d).mpr ⟨dm, h1⟩, h2⟩
            rw [hb0] at this; cases this
      refine ret_bind (P := fun r : Bool × Unit => r.1 = true ↔ PI ns M c) (ret_if (fun z => ret_eq ef (ret_ok ?_)) fun z => ret_ok ?_) fun r hr => ret_if (fun z => ret_eq (psnoc_ok (by have := i1.length_le; omega)) (ret_ok ⟨i1.append (List.Sublist.refl _), fun x => ?_⟩)) fun z => ret_ok ⟨i1.trans (List.sublist_append_left ..), fun x => ?_⟩
      · rw [main, decide_eq_true_iff, fol]
        exact ⟨fun f => ⟨by simpa using z, f⟩, fun f => f.2⟩
      · rw [main]
        have z : b = true := by simpa using z
        rw [z]; simp
      · have h := hr.mp z
        rw [List.mem_append, List.mem_append, i2 x, List.mem_singleton]
        constructor
        · rintro (⟨h1, h2⟩ | rfl)
          · exact ⟨.inl h1, h2⟩
          · exact ⟨.inr rfl, h⟩
        · rintro ⟨h1 | h1, h2⟩
          · exact .inl ⟨h1, h2⟩
          · exact .inr h1
      · have h : ¬ PI ns M c := fun w => z (hr.mpr w)
        rw [List.mem_append, i2 x, List.mem_singleton]
        constructor
        · rintro ⟨h1, h2⟩; exact ⟨.inl h1, h2⟩
        · rintro ⟨h1 | h1, h2⟩
          · exact ⟨h1, h2⟩
          · subst h1; exact absurd h2 h
  · rw [mem_sortB, ht.2 c, a2 c]
    exact ⟨fun z => z.2, fun z => ⟨z.1, z⟩⟩
theorem cut_to' {α : Type} {xs : List α} {k : Nat} (h : k ≤ xs.length) : pcut xs none (some (k : Int)) = xs.take k := by
  unfold pcut
  rw [HT.sIx_nat, HT.sIx_none, List.drop_zero, Nat.sub_zero, Nat.min_eq_left h]
theorem due_ok {Ts : List Th} (h : ∀ t ∈ Ts, ThOk t) (h4 : Ts.length ≤ 4) : Ret (f__law_due Ts) (Due Ts) := by
  have nk : ∀ S : List Th, (∀ t ∈ S, t ∈ Ts) → f__law_names S = .ok (nmT S) := fun S hS => lnames_ok fun t ht => ⟨(h t (hS t ht)).asc, (h t (hS t ht)).sub⟩
  refine ret_noerr (ret_eq (nk Ts fun _ h => h) (ret_lt (ret_bind (lrows_ok (nmT_asc Ts) (nmT_5 Ts)) fun R hR => ret_lt (ret_lt (ret_eq (guard_ok (by omega)) (ret_bind (ret_fold (fun pre (s : List (List Int) × List Th) => s.1.length ≤ 32 ∧ (∀ r, r ∈ s.1 ↔ ∃ α, B01 α ∧ Sol (cat (Ts.take pre.length)) α ∧ r = (nmT Ts).map α) ∧ s.2.length = pre.length ∧ ∀ k t, s.2[k]? = some t → DueK Ts k t) ⟨hR.1, fun r => ?_, rfl, fun k t e => by simp at e⟩ ?_) fun s hs => ?_))))))
  · rw [hR.2 r]
    exact ⟨fun ⟨α, b, e⟩ => ⟨α, b, fun c hc => by simp [cat] at hc, e⟩, fun ⟨α, b, _, e⟩ => ⟨α, b, e⟩⟩
  · rintro pre q post ⟨rows, found⟩ e ⟨i1, i2, i3, i4⟩
    obtain ⟨rfl, hk⟩ := rng_at e
    have hk : pre.length < Ts.length := by omega
    have i1 : rows.length ≤ 32 := i1
    have i2 : ∀ r, r ∈ rows ↔ ∃ α, B01 α ∧ Sol (cat (Ts.take pre.length)) α ∧ r = (nmT Ts).map α := i2
    have i3 : found.length = pre.length := i3
    obtain ⟨T, hT⟩ : ∃ T, Ts[pre.length]? = some T := ⟨_, List.getElem?_eq_getElem hk⟩
    have hTm : T ∈ Ts := List.mem_of_getElem? hT
    have tsub : ∀ n ∈ T.1, n ∈ nmT Ts := fun n hn => (mem_nmT h).mpr ⟨T, hTm, hn⟩
    have ef : pml (fun q2 : List Int => (((pidx Ts (pre.length : Int)).bind fun r4 => (f__law_kept (nmT Ts) q2 r4.2).bind fun r5 => (if r5 then .ok (some q2) else .ok none)) : Res (Option (List Int)))) rows = .ok (rows.filter fun r => keptB (nmT Ts) r T.2) := pml_filter fun r hm => by
      have rl : r.length = (nmT Ts).length := by
        obtain ⟨α, _, _, rfl⟩ := (i2 r).mp hm
        rw [List.length_map]
      rw [pidx_nat hT, bind_ok, kept_ok rl (h T hTm).cv tsub, bind_ok]
      cases keptB (nmT Ts) r T.2 <;> rfl
    have rows2 : ∀ r, r ∈ (rows.filter fun r => keptB (nmT Ts) r T.2) ↔ ∃ α, B01 α ∧ Sol (cat (Ts.take (pre.length + 1))) α ∧ r = (nmT Ts).map α := fun r => by
      rw [List.mem_filter, i2 r, take_snoc hT, cat_app, cat_one]
      constructor
      · rintro ⟨⟨α, b, s, rfl⟩, k⟩
        exact ⟨α, b, sol_app.mpr ⟨s, (keptB_iff (h T hTm).cv tsub).mp k⟩, rfl⟩
      · rintro ⟨α, b, s, rfl⟩
        exact ⟨⟨α, b, (sol_app.mp s).1, rfl⟩, (keptB_iff (h T hTm).cv tsub).mpr (sol_app.mp s).2⟩
    have e1 : ((pre.length : Nat) : Int) + 1 = ((pre.length + 1 : Nat) : Int) := by omega
    have n1 : f__law_names (pcut Ts (some ((pre.length : Int) + 1)) none) = .ok (nmT (Ts.drop (pre.length + 1))) := by
      rw [e1, cut_at (by omega)]
      exact nk _ fun t ht => List.mem_of_mem_drop ht
    have n2 : f__law_names (pcut Ts none (some ((pre.length : Int) + 1))) = .ok (nmT (Ts.take (pre.length + 1))) := by
      rw [e1, cut_to' (by omega)]
      exact nk _ fun t ht => List.mem_of_mem_take ht
    refine ret_eq ef (ret_ltE fun rows' hr' => ret_eq n1 (ret_lt (ret_eq n2 (ret_ltE fun common hco => ret_lt ?_))))
    have r32 : rows'.length ≤ 32 := by rw [hr']; exact Nat.le_trans (List.length_filter_le ..) i1
    have ec : common = cm Ts (pre.length + 1) := by
      rw [hco, List.map_id']
      refine Asc.ext (List.Pairwise.filter _ (nmT_asc _)) (cm_asc _ _) fun n => ?_
      rw [List.mem_filter, decide_eq_true_iff, mem_cm]
      unfold nmT
      rw [List.mem_filter, List.mem_filter]
      exact ⟨fun z => ⟨z.1.1, z.1.2, z.2.2⟩, fun z => ⟨⟨z.1, z.2.1⟩, z.1, z.2.2⟩⟩
    have csub : ∀ n ∈ common, n ∈ nmT Ts := fun n hn => by
      rw [ec] at hn
      have := mem_cm.mp hn
      obtain ⟨t, ht, e⟩ := hasN_iff.mp this.2.1
      exact (mem_nmT h).mpr ⟨t, List.mem_of_mem_take ht, e⟩
    have c5 : common.length ≤ 5 := by rw [ec]; exact cm_5 _ _
    refine ret_bind (ret_fold (fun pre2 (s2 : List (List Int)) => s2.length ≤ pre2.length ∧ ∀ r, r ∈ s2 ↔ ∃ α, B01 α ∧ (nmT Ts).map α ∈ pre2 ∧ r = common.map α) ⟨Nat.le_refl _, by simp⟩ ?_) fun seen hseen => ?_
    · rintro pre2 row post2 s2 e2 ⟨j1, j2⟩
      have hrow : row ∈ rows' := by rw [e2]; simp
      rw [hr'] at hrow
      obtain ⟨α, b, _, rfl⟩ := (rows2 row).mp hrow
      have hp : pre2.length < 32 := by have := congrArg List.length e2; simp at this; omega
      have es : pml (fun q5 : Str => (((pindex (nmT Ts) q5).bind fun r9 => (pidx ((nmT Ts).map α) r9).bind fun r10 => .ok (some r10)) : Res (Option Int))) common = .ok (common.map α) := pml_map fun n hn => by
        rw [pindex_ok (csub n hn), bind_ok, pidx_nat (idx_at (csub n hn)), bind_ok]
      -- what the row tells of the common names
      have same : ∀ β, (nmT Ts).map β = (nmT Ts).map α → common.map β = common.map α := fun β hβ => List.map_congr_left fun n hn => List.map_inj_left.mp hβ n (csub n hn)
      have ap : ∀ r, (r ∈ s2 ∨ r = common.map α) ↔ ∃ β, B01 β ∧ (nmT Ts).map β ∈ pre2 ++ [(nmT Ts).map α] ∧ r = common.map β := fun r => by
        rw [j2 r]
        constructor
        · rintro (⟨β, h1, h2, h3⟩ | rfl)
          · exact ⟨β, h1, List.mem_append_left _ h2, h3⟩
          · exact ⟨α, b, by simp, rfl⟩
        · rintro ⟨β, h1, h2, rfl⟩
          rcases List.mem_append.mp h2 with h2 | h2
          · exact .inl ⟨β, h1, h2, rfl⟩
          · exact .inr (same β (List.mem_singleton.mp h2))
      refine ret_eq es (ret_ltE fun short hsh => ret_if (fun z => ret_eq (psnoc_ok (by omega)) (ret_ok ⟨by simp; omega, fun r => ?_⟩)) fun z => ret_ok ⟨by simp; omega, fun r => ?_⟩)
      · rw [← ap r, List.mem_append, List.mem_singleton, hsh]
      · have hm : short ∈ s2 := by
          have : pin short s2 = true := by simpa using z
          exact pin_iff.mp this
        rw [← ap r]
        exact ⟨.inl, fun q => q.elim id fun q => by rw [q, ← hsh]; exact hm⟩
    · have hseen2 : ∀ r, r ∈ seen ↔ ∃ α, B01 α ∧ Sol (cat (Ts.take (pre.length + 1))) α ∧ r = common.map α := fun r => by
        rw [hseen.2 r]
        constructor
        · rintro ⟨α, b, hm, rfl⟩
          rw [hr'] at hm
          obtain ⟨β, bβ, sβ, eβ⟩ := (rows2 _).mp hm
          exact ⟨β, bβ, sβ, List.map_congr_left fun n hn => List.map_inj_left.mp eβ n (csub n hn)⟩
        · rintro ⟨α, b, sα, rfl⟩
          exact ⟨α, b, by rw [hr']; exact (rows2 _).mpr ⟨α, b, sα, rfl⟩, rfl⟩
      have ac : Asc common := by rw [ec]; exact cm_asc _ _
      refine ret_bind (lnormal_ok ac c5 hseen2) fun r hr => ret_eq (psnoc_ok (by omega)) (ret_ok ?_)
      have pl : (pre ++ [(pre.length : Int)]).length = pre.length + 1 := by simp
      rw [pl]
      refine ⟨r32, by rw [hr']; exact rows2, by show (found ++ [r]).length = _; rw [List.length_append]; simp [i3], fun k t hk => ?_⟩
      rcases snoc_get hk with hk | ⟨ek, rfl⟩
      · exact i4 k t hk
      · rw [ek, i3]
        obtain ⟨rn, rc⟩ := t
        obtain ⟨r1, r2⟩ := hr
        have r1 : rn = common := r1
        rw [r1, ec]
        exact ⟨rc, rfl, by rw [ec] at r2; exact r2⟩
  · obtain ⟨rows, found⟩ := s
    obtain ⟨i1, i2, i3, i4⟩ := hs
    rw [rng_len] at i2 i3
    have ej : ((Ts.length : Int)).toNat = Ts.length := by omega
    rw [ej] at i2 i3
    rw [List.take_length] at i2
    have i3 : found.length = Ts.length := i3
    refine ret_if (fun z => ret_ok ?_) fun z => ret_ok ⟨fun ⟨α, b, s⟩ => z (decide_eq_true ?_), ?_, fun k t hk => ?_⟩
    · have z : 0 < rows.length := by
        have this : (0 : Int) < (rows.length : Int) := of_decide_eq_true z
        omega
      obtain ⟨r, hr⟩ := List.exists_mem_of_length_pos z
      obtain ⟨α, b, s, _⟩ := (i2 r).mp hr
      exact ⟨α, b, s⟩
    · have : (nmT Ts).map α ∈ rows := (i2 _).mpr ⟨α, b, s, rfl⟩
      have := List.length_pos_of_mem this
      show (0 : Int) < (rows.length : Int)
      omega
    · have n0 : 0 < Ts.length := by
        rcases Nat.eq_zero_or_pos Ts.length with z0 | z0
        · refine absurd (decide_eq_true ?_) z
          have : (nmT Ts).map (fun _ => (0 : Int)) ∈ rows := (i2 _).mpr ⟨fun _ => 0, fun _ => .inl rfl, fun c hc => by rw [List.length_eq_zero_iff.mp z0] at hc; simp [cat] at hc, rfl⟩
          have := List.length_pos_of_mem this
          show (0 : Int) < (rows.length : Int)
          omega
        · exact z0
      show (pcut found none (some ((Ts.length : Int) - 1))).length = Ts.length - 1
      rw [show (Ts.length : Int) - 1 = ((Ts.length - 1 : Nat) : Int) by omega, cut_to' (by omega), List.length_take]; omega
    · have hk : (pcut found none (some ((Ts.length : Int) - 1)))[k]? = some t := hk
      have : found[k]? = some t := by
        by_cases z0 : Ts.length = 0
        · have f0 : found = [] := List.length_eq_zero_iff.mp (i3.trans z0)
          rw [f0] at hk
          have := pcut_sub (xs := ([] : List Th)) (a := none) (b := some ((Ts.length : Int) - 1))
          rw [List.sublist_nil.mp this] at hk; cases hk
        · rw [show (Ts.length : Int) - 1 = ((Ts.length - 1 : Nat) : Int) by omega, cut_to' (by omega)] at hk
          have lt : k < Ts.length - 1 := by
            have := (List.getElem?_eq_some_iff.mp hk).1
            rw [List.length_take] at this; omega
          rwa [List.getElem?_take_of_lt lt] at hk
      exact i4 k t this
/-! ### right -/
def dTs (L : List Th) : Dy := .tup (L.map dTh)
theorem eqTs {L : List Th} (hl : L.length ≤ 30000) (h : ∀ t ∈ L, t.1.length ≤ 30000 ∧ t.2.length ≤ 30000 ∧ ∀ c ∈ t.2, c.length ≤ 30000) : f__law_exact_r 7 (dTs L) (dTs L) = .ok true := by
  refine eqT (by rw [List.length_map]; exact hl) fun x hx => ?_
  obtain ⟨t, ht, rfl⟩ := List.mem_map.mp hx
  exact eqTh (h t ht).1 (h t ht).2.1 (h t ht).2.2
theorem due_small {Ts : List Th} {L : List Th} (h4 : Ts.length ≤ 4) (h : Due Ts (some L)) : L.length ≤ 30000 ∧ ∀ t ∈ L, t.1.length ≤ 5 ∧ t.2.length ≤ 30000 ∧ ∀ c ∈ t.2, c.length ≤ 5 := by
  refine ⟨by have := h.2.1; omega, fun t ht => ?_⟩
  obtain ⟨k, hk⟩ := List.mem_iff_getElem?.mp ht
  obtain ⟨N, rfl, nf⟩ := h.2.2 k t hk
  have := nf_len (cm_asc _ _) (cm_5 _ _) nf
  exact ⟨cm_5 _ _, by show N.length ≤ 30000; omega, this.2⟩
theorem right_ok {Ts : List Th} {o : Option (List Th)} (h4 : Ts.length ≤ 4) (h : Due Ts o) : f__law_right (Dy.opt o dTs) (Dy.opt o dTs) = .ok true := by
  cases o with
  | none => rfl
  | some L =>
    obtain ⟨h1, h2⟩ := due_small h4 h
    refine ret_to (ret_noerr (ret_if (fun z => nomatch z) fun _ => ret_eq (eqTs h1 fun t ht => ?_) (ret_ok rfl)))
    obtain ⟨q1, q2, q3⟩ := h2 t ht
    exact ⟨by omega, q2, fun c hc => by have := q3 c hc; omega⟩
theorem ask_ok {Ts : List Th} (h : ∀ t ∈ Ts, ThOk t) (h4 : Ts.length ≤ 4) : Ret (f__law_ask () Ts) (Due Ts) := by
  have d0 : ∀ {L : List Th} {n : Nat}, (L.length : Int) = n → L.length = n := fun h => by omega
  refine ret_noerr (ret_if (fun z => ?_) fun z0 => ret_if (fun z => ?_) fun z1 => ret_if (fun z => ?_) fun z2 => ret_if (fun z => ?_) fun z3 => ?_)
  · have z := of_decide_eq_true z
    have e : Ts = [] := List.length_eq_zero_iff.mp (by omega)
    subst e
    exact ret_bind (middles_ok (by simp) (by simp)) fun r hr => ret_ok hr
  · have z := of_decide_eq_true z
    match Ts, h, h4, z with
    | [a], h, h4, _ => exact ret_eq (pidx_nat (n := 0) rfl) (ret_bind (middles_ok h h4) fun r hr => ret_ok hr)
    | [], _, _, z => simp at z
    | _ :: _ :: _, _, _, z => simp at z; omega
  · have z := of_decide_eq_true z
    match Ts, h, h4, z with
    | [a, b], h, h4, _ => exact ret_eq (pidx_nat (n := 0) rfl) (ret_eq (pidx_nat (n := 1) rfl) (ret_bind (middles_ok h h4) fun r hr => ret_ok hr))
    | [], _, _, z => simp at z
    | [_], _, _, z => simp at z
    | _ :: _ :: _ :: _, _, _, z => simp at z; omega
  · have z := of_decide_eq_true z
    match Ts, h, h4, z with
    | [a, b, c], h, h4, _ => exact ret_eq (pidx_nat (n := 0) rfl) (ret_eq (pidx_nat (n := 1) rfl) (ret_eq (pidx_nat (n := 2) rfl) (ret_bind (middles_ok h h4) fun r hr => ret_ok hr)))
    | [], _, _, z => simp at z
    | [_], _, _, z => simp at z
    | [_, _], _, _, z => simp at z
    | _ :: _ :: _ :: _ :: _, _, _, z => simp at z; omega
  · match Ts, h, h4, z0, z1, z2, z3 with
    | [a, b, c, d], h, h4, _, _, _, _ => exact ret_eq (pidx_nat (n := 0) rfl) (ret_eq (pidx_nat (n := 1) rfl) (ret_eq (pidx_nat (n := 2) rfl) (ret_eq (pidx_nat (n := 3) rfl) (ret_bind (middles_ok h h4) fun r hr => ret_ok hr))))
    | [], _, _, z, _, _, _ => simp at z
    | [_], _, _, _, z, _, _ => simp at z
    | [_, _], _, _, _, _, z, _ => simp at z
    | [_, _, _], _, _, _, _, _, z => simp at z
    | _ :: _ :: _ :: _ :: _ :: _, _, h4, _, _, _, _ => simp at h4
/-! ### what is drawn -/
theorem from_ok {ns : List Int} {k : Int} (h0 : 0 ≤ k) : Ret (f__law_from ns k) Src2 := by
  refine ret_noerr (ret_bind (source_ok h0) fun l hl => ret_ltE fun l' e => ret_bind (P := Src2) (ret_if (fun z => ?_) fun _ => ret_ok (e ▸ hl)) fun r hr => ret_ok hr)
  obtain ⟨n, c, rfl⟩ := hl
  subst e
  have hp : (0 : Int) < (ns.length : Int) := of_decide_eq_true (Bool.and_eq_true _ _ ▸ z).2
  exact ret_eq (pmod_ok hp) (ret_bind (pidx_get (Int.emod_nonneg _ (by omega)) (Int.emod_lt_of_pos _ hp)) fun x _ => ret_eq (x := [x % 999999999999999989, c]) rfl (ret_ok ⟨_, _, rfl⟩))
theorem clause_ok {l : List Int} {ns : List Str} {held : Dict} (hl : Src2 l) (ha : Asc ns) (h5 : ns.length ≤ 5) : Ret (f__law_clause l ns held) fun r => Src2 r.2 ∧ CV ns r.1 := by
  refine ret_noerr (ret_lt (ret_bind (ret_fold (fun pre (s : List Int × Cla) => Src2 s.1 ∧ (s.2.map (·.1)).Sublist pre ∧ ∀ l ∈ s.2, l.2 = 0 ∨ l.2 = 1) ⟨hl, List.Sublist.refl _, by simp⟩ ?_) fun s hs => ?_))
  · rintro pre n post s e ⟨j1, j2, j3⟩
    have hp : s.2.length ≤ 5 := by
      have a := j2.length_le
      have b := congrArg List.length e
      rw [List.length_map] at a
      simp at b; omega
    refine ret_bind (draw_ok j1 (by omega) (by omega)) fun r h => ret_if (fun _ => ?_) fun _ => ret_ok ⟨h.2, j2.trans (List.sublist_append_left ..), j3⟩
    refine ret_bind (draw_ok h.2 (by omega) (by omega)) fun r2 h2 => ret_eq (psnoc_ok (by omega)) (ret_ok ⟨h2.2, ?_, fun l hl => ?_⟩)
    · show ((s.2 ++ [(n, r2.1)]).map (·.1)).Sublist _
      rw [List.map_append]; exact j2.append (List.Sublist.refl [n])
    · rcases List.mem_append.mp hl with hl | hl
      · exact j3 l hl
      · rw [List.mem_singleton.mp hl]; show r2.1 = 0 ∨ r2.1 = 1; have := h2.1; omega
  · have cv : CV ns s.2 := ⟨List.pairwise_map.mp (List.Pairwise.sublist hs.2.1 ha), fun l hl => ⟨hs.2.1.subset (List.mem_map.mpr ⟨l, hl, rfl⟩), hs.2.2 l hl⟩⟩
    refine ret_bind (P := fun r : List Int × Cla => Src2 r.1 ∧ CV ns r.2) (ret_bind (P := fun q : Bool × List Int => Src2 q.2 ∧ (q.1 = true → s.2.length = 0 ∧ 0 < ns.length)) (ret_if (fun hz => ret_bind (P := fun q : Bool × List Int => Src2 q.2 ∧ (q.1 = true → 0 < ns.length)) (ret_if (fun hp => ret_bind (draw_ok hs.1 (by omega) (by omega)) fun r h => ret_ok ⟨h.2, fun _ => by simpa using hp⟩) fun _ => ret_ok ⟨hs.1, nofun⟩) fun q hq => ret_ok ⟨hq.1, fun e => ⟨by have := of_decide_eq_true hz; omega, hq.2 e⟩⟩) fun _ => ret_ok ⟨hs.1, nofun⟩) fun q hq => ret_if (fun h => ?_) fun _ => ret_ok ⟨hq.1, cv⟩) fun r hr => ?_
    · obtain ⟨z1, z2⟩ := hq.2 h
      refine ret_bind (draw_ok hq.1 (by omega) (by omega)) fun r6 h6 => ret_bind (pidx_get h6.1.1 h6.1.2) fun n0 hn0 => ret_ltE fun n en => ret_bind (draw_ok h6.2 (by omega) (by omega)) fun r8 h8 => ret_eq (psnoc_ok (by omega)) (ret_ok ⟨h8.2, ?_⟩)
      rw [List.length_eq_zero_iff.mp z1]
      refine ⟨List.pairwise_singleton .., fun m hm => ?_⟩
      rw [List.mem_singleton.mp hm]
      exact ⟨en ▸ hn0.1, by show r8.1 = 0 ∨ r8.1 = 1; have := h8.1; omega⟩
    · obtain ⟨l1, c⟩ := r
      obtain ⟨q1, q2⟩ := hr
      have q2 : CV ns c := q2
      refine ret_bind (P := CV ns) (ret_if (fun z => ?_) fun _ => ret_ok q2) fun c' hc' => ret_ok ⟨q1, hc'⟩
      have hp : (0 : Int) < (c.length : Int) := of_decide_eq_true (Bool.and_eq_true _ _ ▸ z).1
      match c, q2, hp with
      | [], _, hp => simp at hp
      | a :: c, q2, _ =>
        refine ret_eq (pidx_nat (n := 0) rfl) (ret_eq (pidx_nat (n := 0) rfl) (ret_eq (pset_nat (n := 0) (by simp)) (ret_ok ?_)))
        refine ⟨List.pairwise_cons.mpr ⟨fun m hm => (List.pairwise_cons.mp q2.1).1 m hm, (List.pairwise_cons.mp q2.1).2⟩, fun m hm => ?_⟩
        rcases List.mem_cons.mp hm with rfl | hm
        · have := q2.2 a (by simp)
          exact ⟨this.1, by show 1 - a.2 = 0 ∨ 1 - a.2 = 1; omega⟩
        · exact q2.2 m (List.mem_cons_of_mem _ hm)
theorem dict_ok {l : List Int} {ns : List Str} (hl : Src2 l) (h : ns.length ≤ 5) : Ret (pfold (fun (s4 : ((List Int) × (List (Str × Int)))) (q1 : Str) => (((f__law_draw s4.1 (2 : Int)).bind fun r7 => (pdput s4.2 q1 r7.1).bind fun d1 => .ok (r7.2, d1)) : Res ((List Int) × (List (Str × Int))))) (l, []) ns) fun r => Src2 r.1 := by
  refine ret_mono (ret_fold (fun pre (s : List Int × Dict) => Src2 s.1 ∧ s.2.length ≤ pre.length) ⟨hl, Nat.le_refl _⟩ ?_) fun r hr => hr.1
  rintro pre n post s e ⟨i1, i2⟩
  have hp : pre.length < 5 := by have := congrArg List.length e; simp at this; omega
  exact ret_bind (draw_ok i1 (by omega) (by omega)) fun r hr => ret_eq (pdput_ok (by omega)) (ret_ok ⟨hr.2, by have := dput_len (d := s.2) (k := n) (x := r.1); show (dput s.2 n r.1).length ≤ _; rw [List.length_append, List.length_singleton]; omega⟩)
theorem theory_ok {l : List Int} {k : Int} {common : Dict} (hl : Src2 l) : Ret (f__law_theory l k common) fun r => Src2 r.2 ∧ ThOk r.1 := by
  refine ret_noerr (ret_lt (ret_lt (ret_bind (some_ok (names := pcut pool5 (some (min k 2)) (some (min k 2 + 3))) (most := 3) hl (by omega) (Nat.lt_of_le_of_lt pcut_sub.length_le (by decide))) fun r1 h1 => ret_ltE fun nm hnm => ?_)))
  have s0 : nm.Sublist pool5 := hnm ▸ h1.2.1.trans pcut_sub
  have a0 : Asc nm := List.Pairwise.sublist s0 pool5_asc
  have b0 : nm.length ≤ 5 := s0.length_le
  refine ret_bind (P := fun s : List Int × List Str => Src2 s.1 ∧ Asc s.2 ∧ ∀ n ∈ s.2, n ∈ pool5) (ret_bind (P := fun r : Bool × List Int => Src2 r.2 ∧ (r.1 = true → ("a" : Str) ∉ nm)) (ret_if (fun z => ret_bind (draw_ok h1.1 (by omega) (by omega)) fun r2 h2 => ret_ok ⟨h2.2, fun _ => by simpa using z⟩) fun _ => ret_ok ⟨h1.1, nofun⟩) fun r3 h3 => ret_if (fun z => ?_) fun _ => ret_ok ⟨h3.1, a0, fun n hn => s0.subset hn⟩) fun s2 hs2 => ret_lt ?_
  · refine ret_eq (pcat_ok (by simp; omega)) (ret_lt (ret_ok ⟨h3.1, List.pairwise_cons.mpr ⟨fun n hn => ?_, a0⟩, fun n hn => ?_⟩))
    · have hp := s0.subset hn
      rcases List.mem_cons.mp hp with e | e
      · exact absurd (e ▸ hn) (h3.2 z)
      · exact (List.pairwise_cons.mp pool5_asc).1 n e
    · rcases List.mem_cons.mp hn with e | e
      · rw [e]; exact List.mem_cons_self ..
      · exact s0.subset e
  · obtain ⟨l2, ns⟩ := s2
    obtain ⟨q1, q2, q3⟩ := hs2
    have q2 : Asc ns := q2
    have n5 : ns.length ≤ 5 := pool_sub5 q2 q3
    refine ret_bind (P := fun s : List Int × Dict => Src2 s.1) (ret_bind (P := fun r : Bool × List Int => Src2 r.2) (ret_if (fun z => ret_bind (draw_ok q1 (by omega) (by omega)) fun r5 h5 => ret_ok h5.2) fun _ => ret_ok q1) fun r6 h6 => ret_if (fun z => ret_lt (ret_bind (dict_ok h6 n5) fun s4 h4 => ret_ok h4)) fun _ => ret_ok h6) fun s5 hs5 => ?_
    refine ret_bind (draw_ok hs5 (by omega) (by omega)) fun r8 h8 => ret_eq (guard_ok (by omega)) (ret_bind (ret_plc Src2 (CV ns) h8.2 fun s x hs => ret_bind (clause_ok hs q2 n5) fun r hr => ret_ok ⟨hr.1, fun y hy => by cases hy; exact hr.2⟩) fun r11 h11 => ret_ltE fun cls hcls => ret_ok ⟨h11.1, ⟨q2, q3, ?_, ?_⟩⟩)
    · show cls.length ≤ 7
      have := h11.2.1; rw [rng_len] at this; rw [hcls]; have := h8.1; omega
    · show ∀ c ∈ cls, CV ns c
      rw [hcls]; exact h11.2.2
theorem theories_ok {ns : List Int} : Ret (f__law_theories ns) fun Ts => Ts.length ≤ 4 ∧ ∀ t ∈ Ts, ThOk t := by
  refine ret_noerr (ret_bind (from_ok (by omega)) fun l0 h0 => ret_ltE fun l1 e1 => ret_bind (draw_ok (e1 ▸ h0) (by omega) (by omega)) fun r2 h2 => ret_bind (pidx_get h2.1.1 h2.1.2) fun m hm => ret_ltE fun many hmany => ret_lt ?_)
  have m4 : 0 ≤ many ∧ many ≤ 4 := by
    rw [hmany]
    have := hm.1
    simp at this; omega
  refine ret_bind (P := fun s : List Int × Dict => Src2 s.1) (ret_bind (draw_ok h2.2 (by omega) (by omega)) fun r4 h4 => ret_if (fun _ => ret_bind (dict_ok (ns := pool5) h4.2 (by decide)) fun s hs => ret_ok hs) fun _ => ret_ok h4.2) fun s2 hs2 => ret_eq (guard_ok (by omega)) (ret_bind (ret_pmlG ThOk fun q hq => ?_) fun L hL => ret_ok ⟨by have := hL.1; rw [rng_len] at this; omega, hL.2⟩)
  have := mem_rng hq
  exact ret_bind (from_ok (by omega)) fun l hl => ret_bind (theory_ok hl) fun r hr => ret_ok fun y hy => by cases hy; exact hr.2
theorem eqTh7 {t : Th} (h1 : t.1.length ≤ 30000) (h2 : t.2.length ≤ 30000) (h3 : ∀ c ∈ t.2, c.length ≤ 30000) : f__law_exact_r 7 (dTh t) (dTh t) = .ok true := by
  refine eqT (by simp) fun x hx => ?_
  rcases List.mem_cons.mp hx with rfl | hx
  · refine eqT (by simpa using h1) fun x hx => ?_
    obtain ⟨s, _, rfl⟩ := List.mem_map.mp hx
    exact eqS
  · rw [List.mem_singleton.mp hx]
    refine eqT (by simpa using h2) fun x hx => ?_
    obtain ⟨c, hc, rfl⟩ := List.mem_map.mp hx
    refine eqT (by simpa using h3 c hc) fun x hx => ?_
    obtain ⟨l, _, rfl⟩ := List.mem_map.mp hx
    refine eqT (by simp) fun x hx => ?_
    rcases List.mem_cons.mp hx with rfl | hx
    · exact eqS
    · rw [List.mem_singleton.mp hx]; exact eqI
structure ThOk8 (t : Th) : Prop where
  asc : Asc t.1
  sub : ∀ n ∈ t.1, n ∈ pool5
  len : t.2.length ≤ 8
  cv : ∀ c ∈ t.2, CV t.1 c
/-- one that holds the empty clause -/
theorem broken_mid {t br : Th} (h : ThOk t) (e : br = (t.1, t.2 ++ [([] : Cla)])) : Ret (f_middles () [br]) fun o => o = some [] := by
  have hb : ThOk8 br := by
    rw [e]
    exact ⟨h.asc, h.sub, by have := h.len; show (t.2 ++ [([] : Cla)]).length ≤ 8; rw [List.length_append]; simp; omega, fun c hc => (List.mem_append.mp hc).elim (h.cv c) fun z => by rw [List.mem_singleton.mp z]; exact cv_nil⟩
  have hs : ¬ ∃ α, B01 α ∧ Sol br.2 α := fun ⟨α, _, s⟩ => by
    obtain ⟨l, hl, _⟩ := s [] (by rw [e]; simp)
    simp at hl
  refine ret_noerr (ret_lt (ret_lt (ret_eq (guard_ok (by simp)) (ret_bind (P := fun s : Th × List Th => s = (([], []), [])) (ret_ok rfl) fun s hs' => ?_))))
  subst hs'
  have cut : pcut [br] (some (-(1 : Int))) none = [br] := rfl
  rw [cut]
  have eS : cat ([([], [])] ++ [br]) = br.2 := by unfold cat; simp
  refine ret_eq (x := [([], []), br]) rfl (ret_eq (joinL (fun x hx => ?_) (by simp)) (ret_bind (solve_ok (nmT_asc _) (nmT_5 _) ?_ ?_) fun o ho => ?_))
  · rcases List.mem_cons.mp hx with rfl | hx
    · exact ⟨List.Pairwise.nil, by simp, Nat.zero_le _⟩
    · rw [List.mem_singleton.mp hx]; exact ⟨hb.asc, hb.sub, by have := hb.len; omega⟩
  · show (cat ([([], [])] ++ [br])).length ≤ 250
    rw [eS]; have := hb.len; omega
  · show ∀ c ∈ cat ([([], [])] ++ [br]), _
    rw [eS]
    exact fun c hc => cv_mono (hb.cv c hc) fun n hn => List.mem_filter.mpr ⟨hb.sub n hn, hasN_iff.mpr ⟨br, by simp, hn⟩⟩
  · cases o with
    | none => exact ret_if (fun z => nomatch z) fun _ => ret_ok rfl
    | some d =>
      refine absurd ⟨_, vl_b ho.1, ?_⟩ hs
      have := ho.2
      rwa [show cat [([], []), br] = br.2 from eS] at this
theorem right_nil : f__law_right (.tup []) (.tup []) = .ok true := ret_to (ret_noerr (ret_if (fun z => nomatch z) fun _ => ret_eq (eqT (k := 6) (xs := []) (by simp) (by simp)) (ret_ok rfl)))
theorem nil_ok : ThOk ([], []) := ⟨List.Pairwise.nil, by simp, Nat.zero_le _, by simp⟩
theorem law_pure {ns : List Int} (_ : ns.length ≤ 63) : f_law ns = .ok true := by
  refine ret_to (ret_noerr (ret_lt (ret_bind theories_ok fun T0 hT0 => ret_ltE fun Ts eT => ?_)))
  obtain ⟨h4, h⟩ := eT ▸ hT0
  -- what is asked and what is due are the same
  have both : ∀ {S : List Th}, (∀ t ∈ S, ThOk t) → S.length ≤ 4 → ∃ o, f__law_ask () S = .ok o ∧ f__law_due S = .ok o ∧ Due S o := fun hS h4 => by
    obtain ⟨o, e1, d1⟩ := ask_ok hS h4
    obtain ⟨o', e2, d2⟩ := due_ok hS h4
    exact ⟨o, e1, by rw [e2, due_uniq d1 d2], d1⟩
  obtain ⟨o1, a1, b1, c1⟩ := both h h4
  refine ret_eq a1 (ret_eq b1 (ret_eq (right_ok h4 c1) (ret_if (fun z => nomatch z) fun _ => ret_ltE fun tu etu => ?_)))
  have ht : ∀ t ∈ tu, ThOk t := fun t hm => h t (by rw [etu] at hm; exact List.mem_reverse.mp hm)
  have ht4 : tu.length ≤ 4 := by rw [etu, List.length_reverse]; exact h4
  obtain ⟨o2, a2, b2, c2⟩ := both ht ht4
  refine ret_eq a2 (ret_eq b2 (ret_eq (right_ok ht4 c2) (ret_if (fun z => nomatch z) fun _ => ret_eq (pcat_ok (by simp; omega)) ?_)))
  refine ret_thn (ret_for (fun _ _ => True) (fun _ => True) (fun _ => False) trivial (fun _ _ => trivial) ?_) (fun _ _ => ?_) fun _ z => z.elim
  · rintro pre t post u e _
    have tm : ThOk t := by
      have : t ∈ Ts ++ [([], [])] := by rw [e]; simp
      rcases List.mem_append.mp this with w | w
      · exact h t w
      · rw [List.mem_singleton.mp w]; exact nil_ok
    have one : ∀ x ∈ [t], ThOk x := fun x hx => by rw [List.mem_singleton.mp hx]; exact tm
    obtain ⟨o3, a3, b3, c3⟩ := both one (by simp)
    refine ret_eq (pcat_ok (by have := tm.len; simp; omega)) (ret_ltE fun br ebr => ret_eq a3 (ret_eq b3 (ret_eq (right_ok (Ts := [t]) (by simp) c3) ?_)))
    refine ret_bind (P := fun r : Bool × Unit => r.1 = false) (ret_if (fun z => nomatch z) fun _ => ?_) fun r hr => by rw [hr]; exact ret_if (fun z => nomatch z) fun _ => ret_ok trivial
    -- a broken one
    refine ret_bind (P := fun o : Option (List Th) => o = some []) ?_ fun o ho => ?_
    · unfold f__law_ask
      have hb := broken_mid tm ebr
      refine ret_noerr (ret_if (fun z => by simp at z) fun _ => ret_if (fun _ => ret_eq (pidx_nat (n := 0) rfl) (ret_bind hb fun r hr => ret_ok hr)) fun z => absurd (decide_eq_true rfl) z)
    · rw [ho]
      exact ret_eq right_nil (ret_ok rfl)
  · refine ret_thn (ret_for (fun _ _ => True) (fun _ => True) (fun _ => False) trivial (fun _ _ => trivial) ?_) (fun _ _ => ret_ok rfl) fun _ z => z.elim
    rintro pre S post u e _
    have hS : ∀ t ∈ S, ThOk t := fun t hm => by
      have : S ∈ [pcut Ts none (some 2), pcut Ts (some (-2)) none, pcut tu none (some 2)] := by rw [e]; simp
      rcases List.mem_cons.mp this with w | w
      · rw [w] at hm; exact h t (pcut_sub.subset hm)
      · rcases List.mem_cons.mp w with w | w
        · rw [w] at hm; exact h t (pcut_sub.subset hm)
        · rw [List.mem_singleton.mp w] at hm; exact ht t (pcut_sub.subset hm)
    refine ret_if (fun z => ?_) fun _ => ret_ok trivial
    have z := of_decide_eq_true z
    match S, hS, z with
    | [a, b], hS, _ =>
      obtain ⟨o, eo, d⟩ := due_ok hS (by simp)
      obtain ⟨o', em, d'⟩ := middles_ok hS (by simp)
      have eoo := due_uniq d' d
      subst eoo
      refine ret_eq eo (ret_lt ?_)
      cases o' with
      | none =>
        have mid : f_middle () a b = .ok none := by
          unfold f_middle
          rw [em]; rfl
        refine ret_eq (x := Dy.non) rfl (ret_eq (pidx_nat (n := 0) rfl) (ret_eq (pidx_nat (n := 1) rfl) (ret_eq mid (ret_eq (x := true) rfl (ret_if (fun z => nomatch z) fun _ => ret_ok trivial)))))
      | some L =>
        have hL : L.length = 1 := d.2.1
        match L, hL, d with
        | [t], _, d =>
          have mid : f_middle () a b = .ok (some t) := by
            unfold f_middle
            rw [em]; rfl
          obtain ⟨q1, q2, q3⟩ := (due_small (by simp) d).2 t (by simp)
          have eqt : f__law_right (dTh t) (dTh t) = .ok true := ret_to (ret_noerr (ret_if (fun z => nomatch z) fun _ => ret_eq (x := true) (eqTh7 (by omega) q2 fun c hc => by have := q3 c hc; omega) (ret_ok rfl)))
          refine ret_eq (x := dTh t) rfl (ret_eq (pidx_nat (n := 0) rfl) (ret_eq (pidx_nat (n := 1) rfl) (ret_eq mid (ret_eq (x := true) eqt (ret_if (fun z => nomatch z) fun _ => ret_ok trivial)))))
    | [], _, z => simp at z
    | [_], _, z => simp at z
    | _ :: _ :: _ :: _, _, z => simp at z; omega
end Sl
namespace Sl
open PySem PySem.Spec PyProof.Rows L2 Mi
local macro_rules | `(tactic| walk_at "subc") => `(tactic| first | exact Sub.nil | (refine Sub.same ?_; walk_at "subc") | (refine Sub.any ?_; walk_at "subc"))
local macro_rules | `(tactic| walk_at "nonn") => `(tactic| (intro x S H v h e; subst e; first | (obtain ⟨_, _, h, _⟩ := h; cases h; done) | (cases h; done)))
def topS (i : Nat) : Stmt := PySem.Challenge.pw_shadowlinks_k63_middles.main.body.getD i (.Pass ⟨0, 0, 0, 0⟩)
def clsB : Stmt → List Stmt
  | .ClassDef (body := b) .. => b
  | _ => []
def topM (i j : Nat) : Stmt := (clsB (topS i)).getD j (.Pass ⟨0, 0, 0, 0⟩)
abbrev N_Bits_holds : List Str := ["self", "constraint", "assignment", "name", "sign"]
theorem sc_Bits_holds : FnScope N_Bits_holds ["self", "constraint", "assignment"] (defScope (topM 28 3)) := ⟨rfl, rfl, rfl, by decide +kernel, rfl, by decide +kernel, by decide +kernel⟩
abbrev N_Bits_eliminate : List Str := ["self", "theory", "name"]
theorem sc_Bits_eliminate : FnScope N_Bits_eliminate ["self", "theory", "name"] (defScope (topM 28 6)) := ⟨rfl, rfl, rfl, by decide +kernel, rfl, by decide +kernel, by decide +kernel⟩
abbrev N_Bits_lift : List Str := ["self", "theory", "name", "assignment", "value"]
theorem sc_Bits_lift : FnScope N_Bits_lift ["self", "theory", "name", "assignment"] (defScope (topM 28 7)) := ⟨rfl, rfl, rfl, by decide +kernel, rfl, by decide +kernel, by decide +kernel⟩
abbrev N_Bits_ground : List Str := ["self", "theory"]
theorem sc_Bits_ground : FnScope N_Bits_ground ["self", "theory"] (defScope (topM 28 8)) := ⟨rfl, rfl, rfl, by decide +kernel, rfl, by decide +kernel, by decide +kernel⟩
abbrev N_Bits_normal : List Str := ["self", "theory"]
theorem sc_Bits_normal : FnScope N_Bits_normal ["self", "theory"] (defScope (topM 28 9)) := ⟨rfl, rfl, rfl, by decide +kernel, rfl, by decide +kernel, by decide +kernel⟩
abbrev N_merge_names : List Str := ["lists", "found", "names", "name"]
theorem sc_merge_names : FnScope N_merge_names ["lists"] (defScope (topS 5)) := ⟨rfl, rfl, rfl, by decide +kernel, rfl, by decide +kernel, by decide +kernel⟩
abbrev N_drop_name : List Str := ["names", "gone", "name"]
theorem sc_drop_name : FnScope N_drop_name ["names", "gone"] (defScope (topS 6)) := ⟨rfl, rfl, rfl, by decide +kernel, rfl, by decide +kernel, by decide +kernel⟩
abbrev N_satisfies : List Str := ["kind", "theory", "assignment", "constraint"]
theorem sc_satisfies : FnScope N_satisfies ["kind", "theory", "assignment"] (defScope (topS 8)) := ⟨rfl, rfl, rfl, by decide +kernel, rfl, by decide +kernel, by decide +kernel⟩
abbrev N_shadow : List Str := ["kind", "theory", "shown", "name"]
theorem sc_shadow : FnScope N_shadow ["kind", "theory", "shown"] (defScope (topS 9)) := ⟨rfl, rfl, rfl, by decide +kernel, rfl, by decide +kernel, by decide +kernel⟩
abbrev N_eliminated : List Str := ["kind", "theory", "names", "theories", "name"]
theorem sc_eliminated : FnScope N_eliminated ["kind", "theory", "names"] (defScope (topS 10)) := ⟨rfl, rfl, rfl, by decide +kernel, rfl, by decide +kernel, by decide +kernel⟩
abbrev N_lifted : List Str := ["kind", "theories", "names", "assignment", "found", "k"]
theorem sc_lifted : FnScope N_lifted ["kind", "theories", "names", "assignment"] (defScope (topS 11)) := ⟨rfl, rfl, rfl, by decide +kernel, rfl, by decide +kernel, by decide +kernel⟩
abbrev N_solve : List Str := ["kind", "theory", "names", "theories", "ground"]
theorem sc_solve : FnScope N_solve ["kind", "theory"] (defScope (topS 12)) := ⟨rfl, rfl, rfl, by decide +kernel, rfl, by decide +kernel, by decide +kernel⟩
abbrev N_join : List Str := ["theories", "names", "constraints", "theory"]
theorem sc_join : FnScope N_join ["theories"] (defScope (topS 14)) := ⟨rfl, rfl, rfl, by decide +kernel, rfl, by decide +kernel, by decide +kernel⟩
abbrev N_middle : List Str := ["kind", "first", "second", "found"]
theorem sc_middle : FnScope N_middle ["kind", "first", "second"] (defScope (topS 16)) := ⟨rfl, rfl, rfl, by decide +kernel, rfl, by decide +kernel, by decide +kernel⟩
abbrev N_middles : List Str := ["kind", "theories", "held", "found", "k", "later", "name"]
theorem sc_middles : FnScope N_middles ["kind", "theories"] (defScope (topS 17)) := ⟨rfl, rfl, rfl, by decide +kernel, rfl, by decide +kernel, by decide +kernel⟩
abbrev N_contains : List Str := ["first", "second", "literal"]
theorem sc_contains : FnScope N_contains ["first", "second"] (defScope (topS 19)) := ⟨rfl, rfl, rfl, by decide +kernel, rfl, by decide +kernel, by decide +kernel⟩
abbrev N_least_clauses : List Str := ["clauses", "least", "clause", "other"]
theorem sc_least_clauses : FnScope N_least_clauses ["clauses"] (defScope (topS 20)) := ⟨rfl, rfl, rfl, by decide +kernel, rfl, by decide +kernel, by decide +kernel⟩
abbrev N_resolvent : List Str := ["first", "second", "name", "signs", "other", "sign"]
theorem sc_resolvent : FnScope N_resolvent ["first", "second", "name"] (defScope (topS 21)) := ⟨rfl, rfl, rfl, by decide +kernel, rfl, by decide +kernel, by decide +kernel⟩
abbrev N_resolvents : List Str := ["clauses", "name", "found", "first", "second", "clause"]
theorem sc_resolvents : FnScope N_resolvents ["clauses", "name"] (defScope (topS 22)) := ⟨rfl, rfl, rfl, by decide +kernel, rfl, by decide +kernel, by decide +kernel⟩
abbrev N_eliminate_name : List Str := ["clauses", "name", "others", "clause"]
theorem sc_eliminate_name : FnScope N_eliminate_name ["clauses", "name"] (defScope (topS 23)) := ⟨rfl, rfl, rfl, by decide +kernel, rfl, by decide +kernel, by decide +kernel⟩
abbrev N_close_clauses : List Str := ["clauses", "names", "found", "name"]
theorem sc_close_clauses : FnScope N_close_clauses ["clauses", "names"] (defScope (topS 24)) := ⟨rfl, rfl, rfl, by decide +kernel, rfl, by decide +kernel, by decide +kernel⟩
abbrev N__law_source : List Str := ["_law_script", "_law_k", "_law_number"]
theorem sc__law_source : FnScope N__law_source ["_law_script", "_law_k"] (defScope (topS 30)) := ⟨rfl, rfl, rfl, by decide +kernel, rfl, by decide +kernel, by decide +kernel⟩
abbrev N__law_from : List Str := ["_law_script", "_law_k", "_law_source_here"]
theorem sc__law_from : FnScope N__law_from ["_law_script", "_law_k"] (defScope (topS 31)) := ⟨rfl, rfl, rfl, by decide +kernel, rfl, by decide +kernel, by decide +kernel⟩
abbrev N__law_draw : List Str := ["_law_source_here", "_law_limit", "_law_number", "_law_mixed"]
theorem sc__law_draw : FnScope N__law_draw ["_law_source_here", "_law_limit"] (defScope (topS 32)) := ⟨rfl, rfl, rfl, by decide +kernel, rfl, by decide +kernel, by decide +kernel⟩
abbrev N__law_some : List Str := ["_law_source_here", "_law_names_here", "_law_most", "_law_found", "_law_name"]
theorem sc__law_some : FnScope N__law_some ["_law_source_here", "_law_names_here", "_law_most"] (defScope (topS 33)) := ⟨rfl, rfl, rfl, by decide +kernel, rfl, by decide +kernel, by decide +kernel⟩
abbrev N__law_exact : List Str := ["_law_actual", "_law_due_here", "_law_k"]
theorem sc__law_exact : FnScope N__law_exact ["_law_actual", "_law_due_here"] (defScope (topS 34)) := ⟨rfl, rfl, rfl, by decide +kernel, rfl, by decide +kernel, by decide +kernel⟩
abbrev N__law_rows : List Str := ["_law_count", "_law_rows_here", "_law_k", "_law_row"]
theorem sc__law_rows : FnScope N__law_rows ["_law_count"] (defScope (topS 35)) := ⟨rfl, rfl, rfl, by decide +kernel, rfl, by decide +kernel, by decide +kernel⟩
abbrev N__law_kept : List Str := ["_law_names_here", "_law_row", "_law_clauses_here", "_law_clause_here", "_law_pair"]
theorem sc__law_kept : FnScope N__law_kept ["_law_names_here", "_law_row", "_law_clauses_here"] (defScope (topS 36)) := ⟨rfl, rfl, rfl, by decide +kernel, rfl, by decide +kernel, by decide +kernel⟩
abbrev N__law_clause : List Str := ["_law_source_here", "_law_names_here", "_law_held", "_law_literals", "_law_name", "_law_pair"]
theorem sc__law_clause : FnScope N__law_clause ["_law_source_here", "_law_names_here", "_law_held"] (defScope (topS 37)) := ⟨rfl, rfl, rfl, by decide +kernel, rfl, by decide +kernel, by decide +kernel⟩
abbrev N__law_theory : List Str := ["_law_source_here", "_law_k", "_law_common", "_law_pool", "_law_at", "_law_names_here", "_law_held", "_law_name", "_law_clauses_here", "_law_j"]
theorem sc__law_theory : FnScope N__law_theory ["_law_source_here", "_law_k", "_law_common"] (defScope (topS 38)) := ⟨rfl, rfl, rfl, by decide +kernel, rfl, by decide +kernel, by decide +kernel⟩
abbrev N__law_theories : List Str := ["_law_script", "_law_source_here", "_law_many", "_law_common", "_law_name", "_law_k"]
theorem sc__law_theories : FnScope N__law_theories ["_law_script"] (defScope (topS 39)) := ⟨rfl, rfl, rfl, by decide +kernel, rfl, by decide +kernel, by decide +kernel⟩
abbrev N__law_clauses : List Str := ["_law_names_here", "_law_found", "_law_name", "_law_one"]
theorem sc__law_clauses : FnScope N__law_clauses ["_law_names_here"] (defScope (topS 40)) := ⟨rfl, rfl, rfl, by decide +kernel, rfl, by decide +kernel, by decide +kernel⟩
abbrev N__law_normal : List Str := ["_law_names_here", "_law_rows_here", "_law_least", "_law_clause_here", "_law_larger", "_law_one", "_law_pair", "_law_row"]
theorem sc__law_normal : FnScope N__law_normal ["_law_names_here", "_law_rows_here"] (defScope (topS 41)) := ⟨rfl, rfl, rfl, by decide +kernel, rfl, by decide +kernel, by decide +kernel⟩
abbrev N__law_names : List Str := ["_law_theories_here", "_law_found", "_law_theory_here", "_law_name"]
theorem sc__law_names : FnScope N__law_names ["_law_theories_here"] (defScope (topS 42)) := ⟨rfl, rfl, rfl, by decide +kernel, rfl, by decide +kernel, by decide +kernel⟩
abbrev N__law_due : List Str := ["_law_theories_here", "_law_names_here", "_law_rows_here", "_law_found", "_law_k", "_law_row", "_law_later", "_law_common", "_law_seen", "_law_short", "_law_name"]
theorem sc__law_due : FnScope N__law_due ["_law_theories_here"] (defScope (topS 43)) := ⟨rfl, rfl, rfl, by decide +kernel, rfl, by decide +kernel, by decide +kernel⟩
abbrev N__law_ask : List Str := ["_law_kind", "_law_theories_here"]
theorem sc__law_ask : FnScope N__law_ask ["_law_kind", "_law_theories_here"] (defScope (topS 44)) := ⟨rfl, rfl, rfl, by decide +kernel, rfl, by decide +kernel, by decide +kernel⟩
abbrev N__law_right : List Str := ["_law_actual", "_law_due_here"]
theorem sc__law_right : FnScope N__law_right ["_law_actual", "_law_due_here"] (defScope (topS 45)) := ⟨rfl, rfl, rfl, by decide +kernel, rfl, by decide +kernel, by decide +kernel⟩
abbrev N_law : List Str := ["_law_script", "_law_kind", "_law_theories_here", "_law_turned", "_law_theory_here", "_law_broken", "_law_pair", "_law_due_here"]
theorem sc_law : FnScope N_law ["_law_script"] (defScope (topS 46)) := ⟨rfl, rfl, rfl, by decide +kernel, rfl, by decide +kernel, by decide +kernel⟩
structure Txt (K : PySem.W.Frag) (mg : Str → Option Value) (A : Nat → Addr) (D : Nat → FuncData) : Prop where
  g_ShadowError : mg "ShadowError" = some (.ref (A 2))
  g_NoSolution : mg "NoSolution" = some (.ref (A 3))
  E0_NoSolution : Err0 K mg "NoSolution" (A 3)
  x_NoSolution_ShadowError : PySem.W.exmOne K (.ref (A 3)) (.ref (A 2)) = some true
  k_NoSolution_ShadowError : PySem.W.kitOne K (.ref (A 3)) (.ref (A 2)) = some true
  x_NoSolution_NoSolution : PySem.W.exmOne K (.ref (A 3)) (.ref (A 3)) = some true
  k_NoSolution_NoSolution : PySem.W.kitOne K (.ref (A 3)) (.ref (A 3)) = some true
  kv_NoSolution : PySem.W.kitOne K (.ref (A 3)) (.type "ValueError") = some true
  g_Kind : mg "Kind" = some (.ref (A 26))
  cl_Kind : Cls K (A 26)
  cr_Kind : ClX.CRead K (A 26) (.type "type")
  sf_Kind : PySem.W.selfFirst K (A 26) = true
  mp_Kind : MkPl K (A 26)
  g_Bits : mg "Bits" = some (.ref (A 28))
  cl_Bits : Cls K (A 28)
  cr_Bits : ClX.CRead K (A 28) (.type "type")
  sf_Bits : PySem.W.selfFirst K (A 28) = true
  mp_Bits : MkPl K (A 28)
  F_Bits_holds : Fun K "holds" "Bits.holds" (topM 28 3) (A 1563) (D 1563)
  b_Bits_holds : Binds K (D 1563) ["self", "constraint", "assignment"] []
  M_Bits_holds : Meth K (A 28) "holds" (A 1563)
  F_Bits_eliminate : Fun K "eliminate" "Bits.eliminate" (topM 28 6) (A 1566) (D 1566)
  b_Bits_eliminate : Binds K (D 1566) ["self", "theory", "name"] []
  M_Bits_eliminate : Meth K (A 28) "eliminate" (A 1566)
  F_Bits_lift : Fun K "lift" "Bits.lift" (topM 28 7) (A 1567) (D 1567)
  b_Bits_lift : Binds K (D 1567) ["self", "theory", "name", "assignment"] []
  M_Bits_lift : Meth K (A 28) "lift" (A 1567)
  F_Bits_ground : Fun K "ground" "Bits.ground" (topM 28 8) (A 1568) (D 1568)
  b_Bits_ground : Binds K (D 1568) ["self", "theory"] []
  M_Bits_ground : Meth K (A 28) "ground" (A 1568)
  F_Bits_normal : Fun K "normal" "Bits.normal" (topM 28 9) (A 1569) (D 1569)
  b_Bits_normal : Binds K (D 1569) ["self", "theory"] []
  M_Bits_normal : Meth K (A 28) "normal" (A 1569)
  F_merge_names : Fun K "merge_names" "merge_names" (topS 5) (A 5) (D 5)
  g_merge_names : mg "merge_names" = some (.ref (A 5))
  F_drop_name : Fun K "drop_name" "drop_name" (topS 6) (A 6) (D 6)
  g_drop_name : mg "drop_name" = some (.ref (A 6))
  b_drop_name : Binds K (D 6) ["names", "gone"] []
  F_satisfies : Fun K "satisfies" "satisfies" (topS 8) (A 8) (D 8)
  g_satisfies : mg "satisfies" = some (.ref (A 8))
  b_satisfies : Binds K (D 8) ["kind", "theory", "assignment"] []
  F_shadow : Fun K "shadow" "shadow" (topS 9) (A 9) (D 9)
  g_shadow : mg "shadow" = some (.ref (A 9))
  kn_shadow : KBn K (D 9) ["kind", "theory", "shown"] 2 ["shown"] (fun us ws => us ++ ws) (fun vs zs => vs ++ zs)
  F_eliminated : Fun K "eliminated" "eliminated" (topS 10) (A 10) (D 10)
  g_eliminated : mg "eliminated" = some (.ref (A 10))
  b_eliminated : Binds K (D 10) ["kind", "theory", "names"] []
  F_lifted : Fun K "lifted" "lifted" (topS 11) (A 11) (D 11)
  g_lifted : mg "lifted" = some (.ref (A 11))
  b_lifted : Binds K (D 11) ["kind", "theories", "names", "assignment"] []
  F_solve : Fun K "solve" "solve" (topS 12) (A 12) (D 12)
  g_solve : mg "solve" = some (.ref (A 12))
  b_solve : Binds K (D 12) ["kind", "theory"] []
  F_join : Fun K "join" "join" (topS 14) (A 14) (D 14)
  g_join : mg "join" = some (.ref (A 14))
  b_join : Binds K (D 14) ["theories"] []
  F_middle : Fun K "middle" "middle" (topS 16) (A 16) (D 16)
  g_middle : mg "middle" = some (.ref (A 16))
  b_middle : Binds K (D 16) ["kind", "first", "second"] []
  F_middles : Fun K "middles" "middles" (topS 17) (A 17) (D 17)
  g_middles : mg "middles" = some (.ref (A 17))
  F_contains : Fun K "contains" "contains" (topS 19) (A 19) (D 19)
  g_contains : mg "contains" = some (.ref (A 19))
  b_contains : Binds K (D 19) ["first", "second"] []
  F_least_clauses : Fun K "least_clauses" "least_clauses" (topS 20) (A 20) (D 20)
  g_least_clauses : mg "least_clauses" = some (.ref (A 20))
  b_least_clauses : Binds K (D 20) ["clauses"] []
  F_resolvent : Fun K "resolvent" "resolvent" (topS 21) (A 21) (D 21)
  g_resolvent : mg "resolvent" = some (.ref (A 21))
  b_resolvent : Binds K (D 21) ["first", "second", "name"] []
  F_resolvents : Fun K "resolvents" "resolvents" (topS 22) (A 22) (D 22)
  g_resolvents : mg "resolvents" = some (.ref (A 22))
  b_resolvents : Binds K (D 22) ["clauses", "name"] []
  F_eliminate_name : Fun K "eliminate_name" "eliminate_name" (topS 23) (A 23) (D 23)
  g_eliminate_name : mg "eliminate_name" = some (.ref (A 23))
  b_eliminate_name : Binds K (D 23) ["clauses", "name"] []
  F_close_clauses : Fun K "close_clauses" "close_clauses" (topS 24) (A 24) (D 24)
  g_close_clauses : mg "close_clauses" = some (.ref (A 24))
  b_close_clauses : Binds K (D 24) ["clauses", "names"] []
  F__law_source : Fun K "_law_source" "_law_source" (topS 30) (A 30) (D 30)
  g__law_source : mg "_law_source" = some (.ref (A 30))
  b__law_source : Binds K (D 30) ["_law_script", "_law_k"] []
  F__law_from : Fun K "_law_from" "_law_from" (topS 31) (A 31) (D 31)
  g__law_from : mg "_law_from" = some (.ref (A 31))
  b__law_from : Binds K (D 31) ["_law_script", "_law_k"] []
  F__law_draw : Fun K "_law_draw" "_law_draw" (topS 32) (A 32) (D 32)
  g__law_draw : mg "_law_draw" = some (.ref (A 32))
  b__law_draw : Binds K (D 32) ["_law_source_here", "_law_limit"] []
  F__law_some : Fun K "_law_some" "_law_some" (topS 33) (A 33) (D 33)
  g__law_some : mg "_law_some" = some (.ref (A 33))
  b__law_some : Binds K (D 33) ["_law_source_here", "_law_names_here", "_law_most"] []
  F__law_exact : Fun K "_law_exact" "_law_exact" (topS 34) (A 34) (D 34)
  g__law_exact : mg "_law_exact" = some (.ref (A 34))
  b__law_exact : Binds K (D 34) ["_law_actual", "_law_due_here"] []
  F__law_rows : Fun K "_law_rows" "_law_rows" (topS 35) (A 35) (D 35)
  g__law_rows : mg "_law_rows" = some (.ref (A 35))
  b__law_rows : Binds K (D 35) ["_law_count"] []
  F__law_kept : Fun K "_law_kept" "_law_kept" (topS 36) (A 36) (D 36)
  g__law_kept : mg "_law_kept" = some (.ref (A 36))
  b__law_kept : Binds K (D 36) ["_law_names_here", "_law_row", "_law_clauses_here"] []
  F__law_clause : Fun K "_law_clause" "_law_clause" (topS 37) (A 37) (D 37)
  g__law_clause : mg "_law_clause" = some (.ref (A 37))
  b__law_clause : Binds K (D 37) ["_law_source_here", "_law_names_here", "_law_held"] []
  F__law_theory : Fun K "_law_theory" "_law_theory" (topS 38) (A 38) (D 38)
  g__law_theory : mg "_law_theory" = some (.ref (A 38))
  b__law_theory : Binds K (D 38) ["_law_source_here", "_law_k", "_law_common"] []
  F__law_theories : Fun K "_law_theories" "_law_theories" (topS 39) (A 39) (D 39)
  g__law_theories : mg "_law_theories" = some (.ref (A 39))
  b__law_theories : Binds K (D 39) ["_law_script"] []
  F__law_clauses : Fun K "_law_clauses" "_law_clauses" (topS 40) (A 40) (D 40)
  g__law_clauses : mg "_law_clauses" = some (.ref (A 40))
  b__law_clauses : Binds K (D 40) ["_law_names_here"] []
  F__law_normal : Fun K "_law_normal" "_law_normal" (topS 41) (A 41) (D 41)
  g__law_normal : mg "_law_normal" = some (.ref (A 41))
  b__law_normal : Binds K (D 41) ["_law_names_here", "_law_rows_here"] []
  F__law_names : Fun K "_law_names" "_law_names" (topS 42) (A 42) (D 42)
  g__law_names : mg "_law_names" = some (.ref (A 42))
  b__law_names : Binds K (D 42) ["_law_theories_here"] []
  F__law_due : Fun K "_law_due" "_law_due" (topS 43) (A 43) (D 43)
  g__law_due : mg "_law_due" = some (.ref (A 43))
  b__law_due : Binds K (D 43) ["_law_theories_here"] []
  F__law_ask : Fun K "_law_ask" "_law_ask" (topS 44) (A 44) (D 44)
  g__law_ask : mg "_law_ask" = some (.ref (A 44))
  b__law_ask : Binds K (D 44) ["_law_kind", "_law_theories_here"] []
  F__law_right : Fun K "_law_right" "_law_right" (topS 45) (A 45) (D 45)
  g__law_right : mg "_law_right" = some (.ref (A 45))
  b__law_right : Binds K (D 45) ["_law_actual", "_law_due_here"] []
  F_law : Fun K "law" "law" (topS 46) (A 46) (D 46)
  g_law : mg "law" = some (.ref (A 46))
  b_law : Binds K (D 46) ["_law_script"] []
  z_len : mg "len" = none
  z_int : mg "int" = none
  z_str : mg "str" = none
  z_bool : mg "bool" = none
  z_list : mg "list" = none
  z_tuple : mg "tuple" = none
  z_dict : mg "dict" = none
  z_range : mg "range" = none
  z_sorted : mg "sorted" = none
  z_isinstance : mg "isinstance" = none
  z_any : mg "any" = none
  z_min : mg "min" = none
  z_ValueError : mg "ValueError" = none
section
variable {P : Program} {w : World} {K : PySem.W.Frag} {mg : Str → Option Value} {base : Heap} {A : Nat → Addr} {D : Nat → FuncData}
def pre_Bits_holds (K : PySem.W.Frag) (A : Nat → Addr) : List Ar → Cl → Prop := fun as d => ∃ (self : Unit) (constraint : (List (Str × Int))) (assignment : (List (Str × Int))), as = [.val ((yKind (A 28)) self), .val ((yTup K (yPr K yStr yInt)) constraint), .val ((yDct (κ := Str) yInt) assignment)] ∧ d = ⟨(Bool), f_Bits_holds self constraint assignment, fun r => .val (yBl r), fun r => []⟩
theorem ok_Bits_holds (T : Txt K mg A D) : FnOk P w K mg base CX0 1 (A 1563) (D 1563) ["self", "constraint", "assignment"] (spM A (pre_Bits_holds K A)) := by
  refine T.F_Bits_holds.ok sc_Bits_holds (fun vs H Q E h => ?_) (fun cdv A' outer s H vs Q E hr h => ?_)
  · exact spM_len h fun as d hp => by obtain ⟨self, constraint, assignment, rfl, rfl⟩ := hp; rfl
  · have hu := hu_of hr
    refine ⟨_, (pss_cons (ps_for PassesOwn.never rfl (iK_tup (K := K) rfl (pv 1)) (gK_tup (K := K) 2 rfl rfl (pgs_cons (pg_name (i := 3) sc_Bits_holds.nd rfl (Or.inl rfl)) (pgs_cons (pg_name (i := 4) sc_Bits_holds.nd rfl (Or.inl rfl)) pgs_nil)))
        (pss_one (ps_if (pt_cmpR op_eq (pe_dget hu (pv 2) (pv 3) (fun _ _ => rfl)) (pv 4) (nomark _))
          (pss_one (ps_ret pe_bl))
          pss_nil)))
      (pss_one (ps_ret pe_bl))), ?_⟩
    refine fn_run0 h (fun as d hp => ?_) fun as d hp => ?_
    · obtain ⟨self, constraint, assignment, rfl, rfl⟩ := hp; simp
    · obtain ⟨self, constraint, assignment, rfl, rfl⟩ := hp
      refine ⟨_, (show f_Bits_holds self constraint assignment = Res.noerr _ from rfl), ?_⟩
      refine ws_seq ?_
      refine ws_ctx (Γ' := [.val ((yKind (A 28)) self), .val ((yTup K (yPr K yStr yInt)) constraint), .val ((yDct (κ := Str) yInt) assignment), .any, .any]) rfl ?_
      refine ws_forF (μ := Unit) (τ := (Bool)) (yPr K yStr yInt) ?_
      refine wi_tup ?_
      refine wx_var rfl ?_
      refine ⟨_, rfl, ?_⟩
      refine ⟨_, (fun s1 : Unit => [.val ((yKind (A 28)) self), .val ((yTup K (yPr K yStr yInt)) constraint), .val ((yDct (κ := Str) yInt) assignment), .any, .any]), constraint, _, _, _, rfl, rfl, by walk_at "subc", fun s1 q1 => ?_, fun s1 => ?_⟩
      · refine wg_tup 2 rfl ?_
        refine wgs_cons ?_
        refine wg_name (show 3 < 5 by decide) ?_
        refine wgs_cons ?_
        refine wg_name (show 4 < 5 by decide) ?_
        refine wgs_nil ?_
        refine ws_ctx (Γ' := [.val ((yKind (A 28)) self), .val ((yTup K (yPr K yStr yInt)) constraint), .val ((yDct (κ := Str) yInt) assignment), .val (yStr q1.1), .val (yInt q1.2)]) rfl ?_
        refine ws_if ?_
        refine wt_b ?_
        refine wx_op ?_
        refine wx_dget (t := yInt) (tk := yStr) ?_
        refine wx_var rfl ?_
        refine ⟨assignment, rfl, ?_⟩
        refine wx_var rfl ?_
        refine ⟨_, _, rfl, rfl, fun r1 => ?_⟩
        refine ⟨_, rfl, ?_⟩
        refine wx_var rfl ?_
        refine ⟨_, rfl, ?_⟩
        refine rx_eq ?_
        refine ⟨_, rfl, ?_⟩
        refine ⟨_, _, rfl, ?_, ?_⟩
        · refine ws_ctx (Γ' := [.val ((yKind (A 28)) self), .val ((yTup K (yPr K yStr yInt)) constraint), .val ((yDct (κ := Str) yInt) assignment), .val (yStr q1.1), .val (yInt q1.2)]) rfl ?_
          refine ws_ret ?_
          refine wx_bl ?_
          refine ⟨_, rfl, ?_⟩
          exact ⟨_, rfl, rfl, (by first | trivial | exact ⟨rfl, trivial⟩ | exact ⟨rfl, rfl, trivial⟩)⟩
        · refine ws_next ?_
          exact ⟨_, rfl, by walk_at "subc"⟩
      refine ws_ctx (Γ' := [.val ((yKind (A 28)) self), .val ((yTup K (yPr K yStr yInt)) constraint), .val ((yDct (κ := Str) yInt) assignment), .any, .any]) rfl ?_
      refine ws_ret ?_
      refine wx_bl ?_
      exact ⟨_, rfl, rfl, (by first | trivial | exact ⟨rfl, trivial⟩ | exact ⟨rfl, rfl, trivial⟩)⟩
def pre_drop_name (K : PySem.W.Frag) (A : Nat → Addr) : List Ar → Cl → Prop := fun as d => ∃ (names : (List Str)) (gone : Str), as = [.val ((yTup K yStr) names), .val (yStr gone)] ∧ d = ⟨((List Str)), .ok (f_drop_name names gone), fun r => .val ((yTup K yStr) r), fun r => []⟩
theorem ok_drop_name (T : Txt K mg A D) : FnOk P w K mg base CX0 1 (A 6) (D 6) ["names", "gone"] (spM A (pre_drop_name K A)) := by
  refine T.F_drop_name.ok sc_drop_name (fun vs H Q E h => ?_) (fun cdv A' outer s H vs Q E hr h => ?_)
  · exact spM_len h fun as d hp => by obtain ⟨names, gone, rfl, rfl⟩ := hp; rfl
  · have hu := hu_of hr
    refine ⟨_, (pss_one (ps_ret (pe_callTy (T := "tuple") (cK_tuple (K := K) rfl) (by rfl) T.z_tuple (by decide +kernel) (pa_cons (pe_lc (own := [("name", 2)]) (g := gName 2)  rfl sc_drop_name.nd (iK_tup (K := K) rfl (pv 0)) (blkOk_by (N := N_drop_name) (sc := defScope (topS 6)) (by decide +kernel)) (fun _ _ _ _ _ => (pg_name (i := 2) sc_drop_name.nd rfl (Or.inl rfl))) (fun _ _ _ _ _ => (pts_one (pt_cmpR op_ne (pv 2) (pv 1) (nomark _)))) (fun _ _ _ _ _ => (pv 2))) pa_nil)))), ?_⟩
    refine fn_run h (fun as d hp => ?_) fun as d hp => ?_
    · obtain ⟨names, gone, rfl, rfl⟩ := hp; simp
    · obtain ⟨names, gone, rfl, rfl⟩ := hp
      refine ⟨_, rfl, ?_⟩
      refine ws_ctx (Γ' := [.val ((yTup K yStr) names), .val (yStr gone), .any]) rfl ?_
      refine ws_ret ?_
      refine wx_cb ?_
      refine wa_cons ?_
      refine wx_fz ?_
      refine wx_lc (K := K) yStr yStr (fun q1 => (!decide (q1 = gone))) (fun q1 => q1) (gk_name (by decide)) ?_
      refine wi_tup ?_
      refine wx_var rfl ?_
      refine ⟨_, rfl, ?_⟩
      refine ⟨names, rfl, fun q1 => ?_, ?_⟩
      · refine wg_ctx (Γ' := [.val ((yTup K yStr) names), .val (yStr gone), .any]) rfl ?_
        refine wg_name (show 2 < 3 by decide) ?_
        refine wt_b ?_
        refine wx_op ?_
        refine wx_var rfl ?_
        refine ⟨_, rfl, ?_⟩
        refine wx_var rfl ?_
        refine ⟨_, rfl, ?_⟩
        refine rx_ne ?_
        refine ⟨_, rfl, ?_⟩
        refine ⟨rfl, fun _ => ?_⟩
        refine wx_var rfl ?_
        exact rfl
      refine ⟨_, rfl, ?_⟩
      refine ⟨_, rfl, ?_⟩
      refine wa_nil ?_
      refine rc_tuple (pLst K) ?_
      exact ⟨_, rfl, rfl, (by first | trivial | exact ⟨rfl, trivial⟩ | exact ⟨rfl, rfl, trivial⟩)⟩
def pre_contains (K : PySem.W.Frag) (A : Nat → Addr) : List Ar → Cl → Prop := fun as d => ∃ (first : (List (Str × Int))) (second : (List (Str × Int))), as = [.val ((yTup K (yPr K yStr yInt)) first), .val ((yTup K (yPr K yStr yInt)) second)] ∧ d = ⟨(Bool), f_contains first second, fun r => .val (yBl r), fun r => []⟩
theorem ok_contains (T : Txt K mg A D) : FnOk P w K mg base CX0 1 (A 19) (D 19) ["first", "second"] (spM A (pre_contains K A)) := by
  refine T.F_contains.ok sc_contains (fun vs H Q E h => ?_) (fun cdv A' outer s H vs Q E hr h => ?_)
  · exact spM_len h fun as d hp => by obtain ⟨first, second, rfl, rfl⟩ := hp; rfl
  · have hu := hu_of hr
    refine ⟨_, (pss_cons (ps_for PassesOwn.never rfl (iK_tup (K := K) rfl (pv 1)) (pg_name (i := 2) sc_contains.nd rfl (Or.inl rfl))
        (pss_one (ps_if (pt_cmpR (oP_nin (K := K) rfl hr.units) (pv 2) (pv 0) rfl)
          (pss_one (ps_ret pe_bl))
          pss_nil)))
      (pss_one (ps_ret pe_bl))), ?_⟩
    refine fn_run0 h (fun as d hp => ?_) fun as d hp => ?_
    · obtain ⟨first, second, rfl, rfl⟩ := hp; simp
    · obtain ⟨first, second, rfl, rfl⟩ := hp
      refine ⟨_, (show f_contains first second = Res.noerr _ from rfl), ?_⟩
      refine ws_seq ?_
      refine ws_ctx (Γ' := [.val ((yTup K (yPr K yStr yInt)) first), .val ((yTup K (yPr K yStr yInt)) second), .any]) rfl ?_
      refine ws_forF (μ := Unit) (τ := (Bool)) (yPr K yStr yInt) ?_
      refine wi_tup ?_
      refine wx_var rfl ?_
      refine ⟨_, rfl, ?_⟩
      refine ⟨_, (fun s1 : Unit => [.val ((yTup K (yPr K yStr yInt)) first), .val ((yTup K (yPr K yStr yInt)) second), .any]), second, _, _, _, rfl, rfl, by walk_at "subc", fun s1 q1 => ?_, fun s1 => ?_⟩
      · refine wg_name (show 2 < 3 by decide) ?_
        refine ws_ctx (Γ' := [.val ((yTup K (yPr K yStr yInt)) first), .val ((yTup K (yPr K yStr yInt)) second), .val ((yPr K yStr yInt) q1)]) rfl ?_
        refine ws_if ?_
        refine wt_b ?_
        refine wx_op ?_
        refine wx_var rfl ?_
        refine ⟨_, rfl, ?_⟩
        refine wx_var rfl ?_
        refine ⟨_, rfl, ?_⟩
        refine rx_ninP (K := K) (t := (yPr K yStr yInt)) (x := q1) (ys := first) (pTup K) (Nat.le_of_ble_eq_true rfl) ?_
        refine ⟨_, rfl, ?_⟩
        refine ⟨_, _, rfl, ?_, ?_⟩
        · refine ws_ctx (Γ' := [.val ((yTup K (yPr K yStr yInt)) first), .val ((yTup K (yPr K yStr yInt)) second), .val ((yPr K yStr yInt) q1)]) rfl ?_
          refine ws_ret ?_
          refine wx_bl ?_
          refine ⟨_, rfl, ?_⟩
          exact ⟨_, rfl, rfl, (by first | trivial | exact ⟨rfl, trivial⟩ | exact ⟨rfl, rfl, trivial⟩)⟩
        · refine ws_next ?_
          exact ⟨_, rfl, by walk_at "subc"⟩
      refine ws_ctx (Γ' := [.val ((yTup K (yPr K yStr yInt)) first), .val ((yTup K (yPr K yStr yInt)) second), .any]) rfl ?_
      refine ws_ret ?_
      refine wx_bl ?_
      exact ⟨_, rfl, rfl, (by first | trivial | exact ⟨rfl, trivial⟩ | exact ⟨rfl, rfl, trivial⟩)⟩
def pre_least_clauses (K : PySem.W.Frag) (A : Nat → Addr) : List Ar → Cl → Prop := fun as d => ∃ (clauses : (List (List (Str × Int)))), as = [.val ((ySeqq K (yTup K (yPr K yStr yInt))) clauses)] ∧ d = ⟨((List (List (Str × Int)))), f_least_clauses clauses, fun r => .val ((yTup K (yTup K (yPr K yStr yInt))) r), fun r => []⟩
theorem ok_least_clauses (T : Txt K mg A D) : FnOk P w K mg base CX0 2 (A 20) (D 20) ["clauses"] (spM A (pre_least_clauses K A)) := by
  refine T.F_least_clauses.ok sc_least_clauses (fun vs H Q E h => ?_) (fun cdv A' outer s H vs Q E hr h => ?_)
  · exact spM_len h fun as d hp => by obtain ⟨clauses, rfl, rfl⟩ := hp; rfl
  · have hu := hu_of hr
    have G_contains : FnOk P w K mg base CX0 1 (A 19) (D 19) ["first", "second"] (spM A (pre_contains K A)) := ok_contains T
    refine ⟨_, (pss_cons (ps_set (i := 1) sc_least_clauses.nd rfl (Or.inl rfl) (pe_lst pa_nil))
      (pss_cons (ps_for PassesOwn.never rfl (iK_list (K := K) rfl (pe_sortedLen (K := K) rfl hr.units (by rfl) T.z_sorted (by rfl) T.z_len (pa_cons (pe_callTy (T := "list") (cK_list (K := K) rfl) (by rfl) T.z_list (by decide +kernel) (pa_cons (pv 0) pa_nil)) pa_nil))) (pg_name (i := 2) sc_least_clauses.nd rfl (Or.inr rfl))
        (pss_one (ps_if (pt_not (pt_val (pe_callB (id := "any") (cK_any (K := K) rfl rfl) (by rfl) T.z_any (by decide +kernel) (pa_cons (pe_lc (own := [("other", 3)]) (g := gName 3) (tt := tYes) rfl sc_least_clauses.nd (iK_list (K := K) rfl (pv 1)) (blkOk_by (N := N_least_clauses) (sc := defScope (topS 20)) (by decide +kernel)) (fun _ _ _ _ _ => (pg_name (i := 3) sc_least_clauses.nd rfl (Or.inl rfl))) (fun _ _ _ _ _ => pts_nil) (fun _ _ _ _ _ => (pe_call G_contains (hr.mono (by decide)) rfl T.g_contains T.F_contains.kp T.b_contains .nil pass0 (pa_cons (pv 2) (pa_cons (pv 3) pa_nil))))) pa_nil))))
          (pss_one (ps_expr (pe_bm PySem.F.plainAttrs_list PySem.F.slot_list_append PySem.F.type_list_append mt_append (pv 1) (pa_cons (pv 2) pa_nil))))
          pss_nil)))
      (pss_one (ps_ret (pe_callTy (T := "tuple") (cK_tuple (K := K) rfl) (by rfl) T.z_tuple (by decide +kernel) (pa_cons (pe_callB (id := "sorted") (cW_sorted (K := K) rfl hr.units) (by rfl) T.z_sorted (by decide +kernel) (pa_cons (pv 1) pa_nil)) pa_nil)))))), ?_⟩
    refine fn_run0 h (fun as d hp => ?_) fun as d hp => ?_
    · obtain ⟨clauses, rfl, rfl⟩ := hp; simp
    · obtain ⟨clauses, rfl, rfl⟩ := hp
      refine ⟨_, (show f_least_clauses clauses = Res.noerr _ from rfl), ?_⟩
      refine ws_seq ?_
      refine ws_ctx (Γ' := [.val ((ySeqq K (yTup K (yPr K yStr yInt))) clauses), .any, .any, .any]) rfl ?_
      refine ws_setO (wLst K (yTup K (yPr K yStr yInt))) ?_
      refine wx_lst (K := K) ?_
      refine wa_nil ?_
      refine ⟨[], rfl, show 0 ≤ 1000 by decide, ?_⟩
      refine ⟨([] : List (List (Str × Int))), _, rfl, show 1 < 4 by decide, rfl, fun least => ?_⟩
      refine ws_seq ?_
      refine ws_ctx (Γ' := [.val ((ySeqq K (yTup K (yPr K yStr yInt))) clauses), .own false ((wLst K (yTup K (yPr K yStr yInt))) least), .any, .any]) rfl ?_
      refine ws_for (μ := ((List (List (Str × Int))))) (yTup K (yPr K yStr yInt)) ?_
      refine wi_list ?_
      refine wx_fz ?_
      refine wx_sortLen (K := K) (t := (yPr K yStr yInt)) ?_
      refine wa_cons ?_
      refine wx_fz ?_
      refine wx_cb ?_
      refine wa_cons ?_
      refine wx_var rfl ?_
      refine ⟨_, rfl, ?_⟩
      refine wa_nil ?_
      refine rc_list (pSeq K) ?_
      refine ⟨_, rfl, ?_⟩
      refine ⟨_, rfl, ?_⟩
      refine wa_nil ?_
      refine ⟨clauses, rfl, ?_⟩
      refine ⟨_, rfl, ?_⟩
      refine ⟨_, rfl, ?_⟩
      refine ⟨_, (fun s1 : ((List (List (Str × Int)))) => [.val ((ySeqq K (yTup K (yPr K yStr yInt))) clauses), .own false ((wLst K (yTup K (yPr K yStr yInt))) s1), .any, .any]), (sortLen clauses), _, _, rfl, rfl, by walk_at "subc", fun s1 q1 => ?_, fun s1 => ?_⟩
      · refine wg_name (show 2 < 4 by decide) ?_
        refine ws_ctx (Γ' := [.val ((ySeqq K (yTup K (yPr K yStr yInt))) clauses), .own false ((wLst K (yTup K (yPr K yStr yInt))) s1), .val ((yTup K (yPr K yStr yInt)) q1), .any]) rfl ?_
        refine ws_if ?_
        refine wt_not ?_
        refine wt_b ?_
        refine wx_peek ?_
        refine wx_cb ?_
        refine wa_cons ?_
        refine wx_fz ?_
        refine wx_lcU (K := K) (yTup K (yPr K yStr yInt)) yBl (gk_name (by decide)) ?_
        refine wi_list ?_
        refine wx_var rfl ?_
        refine ⟨_, rfl, ?_⟩
        refine ⟨_, s1, _, rfl, rfl, fun q2 => ?_, fun r2 => ?_⟩
        · refine wg_ctx (Γ' := [.val ((ySeqq K (yTup K (yPr K yStr yInt))) clauses), .val ((yLst K (yTup K (yPr K yStr yInt))) s1), .val ((yTup K (yPr K yStr yInt)) q1), .any]) rfl ?_
          refine wg_name (show 3 < 4 by decide) ?_
          refine wt_yes ?_
          refine ⟨_, (if_pos rfl).symm, ?_⟩
          refine wx_call ?_
          refine wa_cons ?_
          refine wx_var rfl ?_
          refine ⟨_, rfl, ?_⟩
          refine wa_cons ?_
          refine wx_var rfl ?_
          refine ⟨_, rfl, ?_⟩
          refine wa_nil ?_
          refine rc_call _ _ _ ⟨q1, q2, rfl, rfl⟩ ⟨rfl, rfl, trivial⟩ (show List.Nodup ([] : List Nat) by decide) rfl (.inr fun _ z => by first | exact noerr_ne z | exact (nomatch z)) fun r1 _ => ?_
          exact ⟨_, rfl, rfl⟩
        refine ⟨_, rfl, ?_⟩
        refine ⟨_, rfl, ?_⟩
        refine wa_nil ?_
        refine rc_any ?_
        refine ⟨_, rfl, imm_bl, ?_⟩
        refine ⟨_, rfl, ?_⟩
        refine ⟨_, _, rfl, ?_, ?_⟩
        · refine ws_ctx (Γ' := [.val ((ySeqq K (yTup K (yPr K yStr yInt))) clauses), .own false ((wLst K (yTup K (yPr K yStr yInt))) s1), .val ((yTup K (yPr K yStr yInt)) q1), .any]) rfl ?_
          refine ws_append (yTup K (yPr K yStr yInt)) (xs0 := s1) rfl ?_
          refine wx_var rfl ?_
          refine ⟨_, s1, q1, _, rfl, rfl, rfl, fun z1 => ?_⟩
          exact ⟨_, rfl, by walk_at "subc"⟩
        · refine ws_next ?_
          exact ⟨_, rfl, by walk_at "subc"⟩
      refine ws_ctx (Γ' := [.val ((ySeqq K (yTup K (yPr K yStr yInt))) clauses), .own false ((wLst K (yTup K (yPr K yStr yInt))) s1), .any, .any]) rfl ?_
      refine ws_frz 1 rfl ?_
      refine ws_ret ?_
      refine wx_cb ?_
      refine wa_cons ?_
      refine wx_fz ?_
      refine wx_cb ?_
      refine wa_cons ?_
      refine wx_var rfl ?_
      refine ⟨_, rfl, ?_⟩
      refine wa_nil ?_
      refine rc_sortQ (K := K) (t := (yTup K (yPr K yStr yInt))) (Nat.le_of_ble_eq_true rfl) rfl fun r3 => ?_
      refine ⟨_, rfl, ?_⟩
      refine ⟨_, rfl, ?_⟩
      refine wa_nil ?_
      refine rc_tuple (pLst K) ?_
      exact ⟨_, rfl, rfl, (by first | trivial | exact ⟨rfl, trivial⟩ | exact ⟨rfl, rfl, trivial⟩)⟩
def pre_resolvent (K : PySem.W.Frag) (A : Nat → Addr) : List Ar → Cl → Prop := fun as d => ∃ (first : (List (Str × Int))) (second : (List (Str × Int))) (name : Str), as = [.val ((yTup K (yPr K yStr yInt)) first), .val ((yTup K (yPr K yStr yInt)) second), .val (yStr name)] ∧ d = ⟨((Option (List (Str × Int)))), f_resolvent first second name, fun r => .val ((yOpt (yTup K (yPr K yStr yInt))) r), fun r => []⟩
theorem ok_resolvent (T : Txt K mg A D) : FnOk P w K mg base CX0 1 (A 21) (D 21) ["first", "second", "name"] (spM A (pre_resolvent K A)) := by
  refine T.F_resolvent.ok sc_resolvent (fun vs H Q E h => ?_) (fun cdv A' outer s H vs Q E hr h => ?_)
  · exact spM_len h fun as d hp => by obtain ⟨first, second, name, rfl, rfl⟩ := hp; rfl
  · have hu := hu_of hr
    refine ⟨_, (pss_cons (ps_set (i := 3) sc_resolvent.nd rfl (Or.inl rfl) pe_dnewK)
      (pss_cons (ps_for PassesOwn.never rfl (iK_tup (K := K) rfl (pe_op (oK_catA (K := K) rfl) (pv 0) (pv 1))) (gK_tup (K := K) 2 rfl rfl (pgs_cons (pg_name (i := 4) sc_resolvent.nd rfl (Or.inl rfl)) (pgs_cons (pg_name (i := 5) sc_resolvent.nd rfl (Or.inl rfl)) pgs_nil)))
        (pss_one (ps_if (PW.pt (pw_and (pt_cmpR op_ne (pv 4) (pv 2) (nomark _)) (pw_and1 (pt_cmpR op_ne (pe_dsetd (pv 3) (pv 4) (pv 5) ⟨rfl, rfl, rfl, rfl⟩) (pv 5) (nomark _)))))
          (pss_one (ps_ret pe_non))
          pss_nil)))
      (pss_one (ps_ret (pe_callTy (T := "tuple") (cK_tuple (K := K) rfl) (by rfl) T.z_tuple (by decide +kernel) (pa_cons (pe_callB (id := "sorted") (cr_sortedSI rfl hr.units) (by rfl) T.z_sorted (by decide +kernel) (pa_cons (pe_itemsK (pv 3)) pa_nil)) pa_nil)))))), ?_⟩
    refine fn_run0 h (fun as d hp => ?_) fun as d hp => ?_
    · obtain ⟨first, second, name, rfl, rfl⟩ := hp; simp
    · obtain ⟨first, second, name, rfl, rfl⟩ := hp
      refine ⟨_, (show f_resolvent first second name = Res.noerr _ from rfl), ?_⟩
      refine ws_seq ?_
      refine ws_ctx (Γ' := [.val ((yTup K (yPr K yStr yInt)) first), .val ((yTup K (yPr K yStr yInt)) second), .val (yStr name), .any, .any, .any]) rfl ?_
      refine ws_setO (wDct (κ := Str) yInt) ?_
      refine wx_dnew ?_
      refine ⟨([] : (List (Str × Int))), _, rfl, show 3 < 6 by decide, rfl, fun signs => ?_⟩
      refine ws_seq ?_
      refine ws_ctx (Γ' := [.val ((yTup K (yPr K yStr yInt)) first), .val ((yTup K (yPr K yStr yInt)) second), .val (yStr name), .own false ((wDct (κ := Str) yInt) signs), .any, .any]) rfl ?_
      refine ws_forF (μ := ((List (Str × Int)))) (τ := ((Option (List (Str × Int))))) (yPr K yStr yInt) ?_
      refine wi_tup ?_
      refine wx_op ?_
      refine wx_var rfl ?_
      refine ⟨_, rfl, ?_⟩
      refine wx_var rfl ?_
      refine ⟨_, rfl, ?_⟩
      refine rx_catT (t := (yPr K yStr yInt)) (xs := first) (ys := second) rfl ?_
      refine ⟨_, rfl, ?_⟩
      refine ⟨_, (fun s1 : ((List (Str × Int))) => [.val ((yTup K (yPr K yStr yInt)) first), .val ((yTup K (yPr K yStr yInt)) second), .val (yStr name), .own false ((wDct (κ := Str) yInt) s1), .any, .any]), (first ++ second), _, _, _, rfl, rfl, by walk_at "subc", fun s1 q1 => ?_, fun s1 => ?_⟩
      · refine wg_tup 2 rfl ?_
        refine wgs_cons ?_
        refine wg_name (show 4 < 6 by decide) ?_
        refine wgs_cons ?_
        refine wg_name (show 5 < 6 by decide) ?_
        refine wgs_nil ?_
        refine ws_ctx (Γ' := [.val ((yTup K (yPr K yStr yInt)) first), .val ((yTup K (yPr K yStr yInt)) second), .val (yStr name), .own false ((wDct (κ := Str) yInt) s1), .val (yStr q1.1), .val (yInt q1.2)]) rfl ?_
        refine ws_if ?_
        refine wt_andM (μ := ((List (Str × Int)))) ?_
        refine wt_b ?_
        refine wx_op ?_
        refine wx_var rfl ?_
        refine ⟨_, rfl, ?_⟩
        refine wx_var rfl ?_
        refine ⟨_, rfl, ?_⟩
        refine rx_ne ?_
        refine ⟨_, rfl, ?_⟩
        refine ⟨(fun s2 : ((List (Str × Int))) => [.val ((yTup K (yPr K yStr yInt)) first), .val ((yTup K (yPr K yStr yInt)) second), .val (yStr name), .own false ((wDct (κ := Str) yInt) s2), .val (yStr q1.1), .val (yInt q1.2)]), _, (s1), _, rfl, by walk_at "subc", fun _ => ?_, fun r2 => ?_⟩
        · refine wt_b ?_
          refine wx_op ?_
          refine wx_dsetd (κ' := Str) (tk := yStr) yInt ?_ rfl
          refine wx_var rfl ?_
          refine ⟨_, rfl, ?_⟩
          refine wx_var rfl ?_
          refine ⟨_, q1.2, _, s1, rfl, rfl, rfl, fun d1 => ?_⟩
          refine ⟨_, rfl, ?_⟩
          refine wx_var rfl ?_
          refine ⟨_, rfl, ?_⟩
          refine rx_ne ?_
          refine ⟨_, rfl, ?_⟩
          exact ⟨_, rfl, by walk_at "subc"⟩
        refine ⟨_, _, rfl, ?_, ?_⟩
        · refine ws_ctx (Γ' := [.val ((yTup K (yPr K yStr yInt)) first), .val ((yTup K (yPr K yStr yInt)) second), .val (yStr name), .own false ((wDct (κ := Str) yInt) r2.2), .val (yStr q1.1), .val (yInt q1.2)]) rfl ?_
          refine ws_ret ?_
          refine wx_non ?_
          refine ⟨_, rfl, ?_⟩
          exact ⟨_, rfl, rfl, (by first | trivial | exact ⟨rfl, trivial⟩ | exact ⟨rfl, rfl, trivial⟩)⟩
        · refine ws_next ?_
          exact ⟨_, rfl, by walk_at "subc"⟩
      refine ws_ctx (Γ' := [.val ((yTup K (yPr K yStr yInt)) first), .val ((yTup K (yPr K yStr yInt)) second), .val (yStr name), .own false ((wDct (κ := Str) yInt) s1), .any, .any]) rfl ?_
      refine ws_frz 3 rfl ?_
      refine ws_ret ?_
      refine wx_cb ?_
      refine wa_cons ?_
      refine wx_fz ?_
      refine wx_sortSI (K := K) ?_
      refine wx_var rfl ?_
      refine ⟨s1, rfl, ?_⟩
      refine ⟨_, rfl, ?_⟩
      refine ⟨_, rfl, ?_⟩
      refine wa_nil ?_
      refine rc_tuple (pLst K) ?_
      exact ⟨_, rfl, rfl, (by first | trivial | exact ⟨rfl, trivial⟩ | exact ⟨rfl, rfl, trivial⟩)⟩
def pre_resolvents (K : PySem.W.Frag) (A : Nat → Addr) : List Ar → Cl → Prop := fun as d => ∃ (clauses : (List (List (Str × Int)))) (name : Str), as = [.val ((yTup K (yTup K (yPr K yStr yInt))) clauses), .val (yStr name)] ∧ d = ⟨((List (List (Str × Int)))), f_resolvents clauses name, fun r => .own ((wLst K (yTup K (yPr K yStr yInt))) r), fun r => []⟩
theorem ok_resolvents (T : Txt K mg A D) : FnOk P w K mg base CX0 2 (A 22) (D 22) ["clauses", "name"] (spM A (pre_resolvents K A)) := by
  refine T.F_resolvents.ok sc_resolvents (fun vs H Q E h => ?_) (fun cdv A' outer s H vs Q E hr h => ?_)
  · exact spM_len h fun as d hp => by obtain ⟨clauses, name, rfl, rfl⟩ := hp; rfl
  · have hu := hu_of hr
    have G_resolvent : FnOk P w K mg base CX0 1 (A 21) (D 21) ["first", "second", "name"] (spM A (pre_resolvent K A)) := ok_resolvent T
    refine ⟨_, (pss_cons (ps_set (i := 2) sc_resolvents.nd rfl (Or.inl rfl) (pe_lst pa_nil))
      (pss_cons (ps_for PassesOwn.never rfl (iK_tup (K := K) rfl (pv 0)) (pg_name (i := 3) sc_resolvents.nd rfl (Or.inl rfl))
        (pss_one (ps_if (pt_cmpR (oP_in (K := K) rfl hr.units) (pe_tup (pa_cons (pv 1) (pa_cons pe_int pa_nil))) (pv 3) rfl)
          (pss_one (ps_for PassesOwn.never rfl (iK_tup (K := K) rfl (pv 0)) (pg_name (i := 4) sc_resolvents.nd rfl (Or.inl rfl))
            (pss_cons (ps_set (i := 5) sc_resolvents.nd rfl (Or.inl rfl) (pe_ifExp (pt_cmpR (oP_in (K := K) rfl hr.units) (pe_tup (pa_cons (pv 1) (pa_cons pe_int pa_nil))) (pv 4) rfl) (pe_call G_resolvent (hr.mono (by decide)) rfl T.g_resolvent T.F_resolvent.kp T.b_resolvent .nil pass0 (pa_cons (pv 3) (pa_cons (pv 4) (pa_cons (pv 1) pa_nil)))) pe_non))
            (pss_one (ps_if (pt_cmpR op_notN (pv 5) pe_non (nomark _))
              (pss_one (ps_expr (pe_bm PySem.F.plainAttrs_list PySem.F.slot_list_append PySem.F.type_list_append mt_append (pv 2) (pa_cons (pv 5) pa_nil))))
              pss_nil)))))
          pss_nil)))
      (pss_one (ps_ret (pv 2))))), ?_⟩
    refine fn_run0 h (fun as d hp => ?_) fun as d hp => ?_
    · obtain ⟨clauses, name, rfl, rfl⟩ := hp; simp
    · obtain ⟨clauses, name, rfl, rfl⟩ := hp
      refine ⟨_, (show f_resolvents clauses name = Res.noerr _ from rfl), ?_⟩
      refine ws_seq ?_
      refine ws_ctx (Γ' := [.val ((yTup K (yTup K (yPr K yStr yInt))) clauses), .val (yStr name), .any, .any, .any, .any]) rfl ?_
      refine ws_setO (wLst K (yTup K (yPr K yStr yInt))) ?_
      refine wx_lst (K := K) ?_
      refine wa_nil ?_
      refine ⟨[], rfl, show 0 ≤ 1000 by decide, ?_⟩
      refine ⟨([] : List (List (Str × Int))), _, rfl, show 2 < 6 by decide, rfl, fun found => ?_⟩
      refine ws_seq ?_
      refine ws_ctx (Γ' := [.val ((yTup K (yTup K (yPr K yStr yInt))) clauses), .val (yStr name), .own false ((wLst K (yTup K (yPr K yStr yInt))) found), .any, .any, .any]) rfl ?_
      refine ws_for (μ := ((List (List (Str × Int))))) (yTup K (yPr K yStr yInt)) ?_
      refine wi_tup ?_
      refine wx_var rfl ?_
      refine ⟨_, rfl, ?_⟩
      refine ⟨_, (fun s1 : ((List (List (Str × Int)))) => [.val ((yTup K (yTup K (yPr K yStr yInt))) clauses), .val (yStr name), .own false ((wLst K (yTup K (yPr K yStr yInt))) s1), .any, .any, .any]), clauses, _, _, rfl, rfl, by walk_at "subc", fun s1 q1 => ?_, fun s1 => ?_⟩
      · refine wg_name (show 3 < 6 by decide) ?_
        refine ws_ctx (Γ' := [.val ((yTup K (yTup K (yPr K yStr yInt))) clauses), .val (yStr name), .own false ((wLst K (yTup K (yPr K yStr yInt))) s1), .val ((yTup K (yPr K yStr yInt)) q1), .any, .any]) rfl ?_
        refine ws_if ?_
        refine wt_b ?_
        refine wx_op ?_
        refine wx_tup (K := K) ?_
        refine wa_cons ?_
        refine wx_var rfl ?_
        refine ⟨_, rfl, ?_⟩
        refine wa_cons ?_
        refine wx_int ?_
        refine ⟨_, rfl, ?_⟩
        refine wa_nil ?_
        refine ⟨[yStr name, yInt (1 : Int)], rfl, show 2 ≤ 1000 by decide, ?_⟩
        refine ⟨_, rfl, ?_⟩
        refine wx_var rfl ?_
        refine ⟨_, rfl, ?_⟩
        refine rx_inP (K := K) (t := (yPr K yStr yInt)) (x := (name, (1 : Int))) (ys := q1) (pTup K) (Nat.le_of_ble_eq_true rfl) ?_
        refine ⟨_, rfl, ?_⟩
        refine ⟨_, _, rfl, ?_, ?_⟩
        · refine ws_ctx (Γ' := [.val ((yTup K (yTup K (yPr K yStr yInt))) clauses), .val (yStr name), .own false ((wLst K (yTup K (yPr K yStr yInt))) s1), .val ((yTup K (yPr K yStr yInt)) q1), .any, .any]) rfl ?_
          refine ws_for (μ := ((List (List (Str × Int))))) (yTup K (yPr K yStr yInt)) ?_
          refine wi_tup ?_
          refine wx_var rfl ?_
          refine ⟨_, rfl, ?_⟩
          refine ⟨_, (fun s2 : ((List (List (Str × Int)))) => [.val ((yTup K (yTup K (yPr K yStr yInt))) clauses), .val (yStr name), .own false ((wLst K (yTup K (yPr K yStr yInt))) s2), .val ((yTup K (yPr K yStr yInt)) q1), .any, .any]), clauses, _, _, rfl, rfl, by walk_at "subc", fun s2 q2 => ?_, fun s2 => ?_⟩
          · refine wg_name (show 4 < 6 by decide) ?_
            refine ws_seq ?_
            refine ws_ctx (Γ' := [.val ((yTup K (yTup K (yPr K yStr yInt))) clauses), .val (yStr name), .own false ((wLst K (yTup K (yPr K yStr yInt))) s2), .val ((yTup K (yPr K yStr yInt)) q1), .val ((yTup K (yPr K yStr yInt)) q2), .any]) rfl ?_
            refine ws_setL (yOpt (yTup K (yPr K yStr yInt))) ?_
            refine wx_ifM (μ := Unit) (yOpt (yTup K (yPr K yStr yInt))) ?_
            refine wt_b ?_
            refine wx_op ?_
            refine wx_tup (K := K) ?_
            refine wa_cons ?_
            refine wx_var rfl ?_
            refine ⟨_, rfl, ?_⟩
            refine wa_cons ?_
            refine wx_int ?_
            refine ⟨_, rfl, ?_⟩
            refine wa_nil ?_
            refine ⟨[yStr name, yInt (0 : Int)], rfl, show 2 ≤ 1000 by decide, ?_⟩
            refine ⟨_, rfl, ?_⟩
            refine wx_var rfl ?_
            refine ⟨_, rfl, ?_⟩
            refine rx_inP (K := K) (t := (yPr K yStr yInt)) (x := (name, (0 : Int))) (ys := q2) (pTup K) (Nat.le_of_ble_eq_true rfl) ?_
            refine ⟨_, rfl, ?_⟩
            refine ⟨(fun _ : Unit => [.val ((yTup K (yTup K (yPr K yStr yInt))) clauses), .val (yStr name), .own false ((wLst K (yTup K (yPr K yStr yInt))) s2), .val ((yTup K (yPr K yStr yInt)) q1), .val ((yTup K (yPr K yStr yInt)) q2), .any]), _, _, _, rfl, fun _ => ?_, fun _ => ?_, fun r2 => ?_⟩
            · refine wx_call ?_
              refine wa_cons ?_
              refine wx_var rfl ?_
              refine ⟨_, rfl, ?_⟩
              refine wa_cons ?_
              refine wx_var rfl ?_
              refine ⟨_, rfl, ?_⟩
              refine wa_cons ?_
              refine wx_var rfl ?_
              refine ⟨_, rfl, ?_⟩
              refine wa_nil ?_
              refine rc_call _ _ _ ⟨q1, q2, name, rfl, rfl⟩ ⟨rfl, rfl, rfl, trivial⟩ (show List.Nodup ([] : List Nat) by decide) rfl (.inr fun _ z => by first | exact noerr_ne z | exact (nomatch z)) fun r1 _ => ?_
              exact ⟨_, _, rfl, rfl, by walk_at "subc"⟩
            · refine wx_non ?_
              exact ⟨_, _, rfl, rfl, by walk_at "subc"⟩
            refine ⟨r2.1, _, rfl, show 5 < 6 by decide, rfl, fun clause => ?_⟩
            refine ws_ctx (Γ' := [.val ((yTup K (yTup K (yPr K yStr yInt))) clauses), .val (yStr name), .own false ((wLst K (yTup K (yPr K yStr yInt))) s2), .val ((yTup K (yPr K yStr yInt)) q1), .val ((yTup K (yPr K yStr yInt)) q2), .val ((yOpt (yTup K (yPr K yStr yInt))) clause)]) rfl ?_
            refine ws_if ?_
            refine wt_b ?_
            refine wx_op ?_
            refine wx_var rfl ?_
            refine ⟨_, rfl, ?_⟩
            refine wx_non ?_
            refine ⟨_, rfl, ?_⟩
            refine rx_notN (t := (yTup K (yPr K yStr yInt))) (x := clause) (by walk_at "nonn") ?_
            refine ⟨_, rfl, ?_⟩
            refine ⟨_, _, rfl, ?_, ?_⟩
            · refine ws_ctx (Γ' := [.val ((yTup K (yTup K (yPr K yStr yInt))) clauses), .val (yStr name), .own false ((wLst K (yTup K (yPr K yStr yInt))) s2), .val ((yTup K (yPr K yStr yInt)) q1), .val ((yTup K (yPr K yStr yInt)) q2), .val ((yOpt (yTup K (yPr K yStr yInt))) clause)]) rfl ?_
              refine ws_append (yTup K (yPr K yStr yInt)) (xs0 := s2) rfl ?_
              refine wx_unw (yTup K (yPr K yStr yInt)) ?_
              refine wx_var rfl ?_
              refine ⟨clause, _, rfl, rfl, fun r3 => ?_⟩
              refine ⟨_, s2, r3, _, rfl, rfl, rfl, fun z1 => ?_⟩
              exact ⟨_, rfl, by walk_at "subc"⟩
            · refine ws_next ?_
              exact ⟨_, rfl, by walk_at "subc"⟩
          exact ⟨_, rfl, by walk_at "subc"⟩
        · refine ws_next ?_
          exact ⟨_, rfl, by walk_at "subc"⟩
      refine ws_ctx (Γ' := [.val ((yTup K (yTup K (yPr K yStr yInt))) clauses), .val (yStr name), .own false ((wLst K (yTup K (yPr K yStr yInt))) s1), .any, .any, .any]) rfl ?_
      refine ws_ret ?_
      refine wx_take rfl ?_
      exact ⟨_, rfl, rfl, (by first | trivial | exact ⟨rfl, trivial⟩ | exact ⟨rfl, rfl, trivial⟩)⟩
def pre_eliminate_name (K : PySem.W.Frag) (A : Nat → Addr) : List Ar → Cl → Prop := fun as d => ∃ (clauses : (List (List (Str × Int)))) (name : Str), as = [.val ((yTup K (yTup K (yPr K yStr yInt))) clauses), .val (yStr name)] ∧ d = ⟨((List (List (Str × Int)))), f_eliminate_name clauses name, fun r => .val ((yTup K (yTup K (yPr K yStr yInt))) r), fun r => []⟩
theorem ok_eliminate_name (T : Txt K mg A D) : FnOk P w K mg base CX0 3 (A 23) (D 23) ["clauses", "name"] (spM A (pre_eliminate_name K A)) := by
  refine T.F_eliminate_name.ok sc_eliminate_name (fun vs H Q E h => ?_) (fun cdv A' outer s H vs Q E hr h => ?_)
  · exact spM_len h fun as d hp => by obtain ⟨clauses, name, rfl, rfl⟩ := hp; rfl
  · have hu := hu_of hr
    have G_least_clauses : FnOk P w K mg base CX0 2 (A 20) (D 20) ["clauses"] (spM A (pre_least_clauses K A)) := ok_least_clauses T
    have G_resolvents : FnOk P w K mg base CX0 2 (A 22) (D 22) ["clauses", "name"] (spM A (pre_resolvents K A)) := ok_resolvents T
    refine ⟨_, (pss_cons (ps_setLc (i := 2) (own := [("clause", 3)]) (g := gName 3)  rfl sc_eliminate_name.nd rfl rfl (sw_true rfl rfl rfl (by decide +kernel))  (iK_tup (K := K) rfl (pv 0)) (blkOk_by (N := N_eliminate_name) (sc := defScope (topS 23)) (by decide +kernel)) (fun _ _ _ _ _ => (pg_name (i := 3) sc_eliminate_name.nd rfl (Or.inl rfl))) (fun _ _ _ _ _ => (pts_one (PW.pt (pw_and (pt_cmpR (oP_nin (K := K) rfl hr.units) (pe_tup (pa_cons (pv 1) (pa_cons pe_int pa_nil))) (pv 3) rfl) (pw_and1 (pt_cmpR (oP_nin (K := K) rfl hr.units) (pe_tup (pa_cons (pv 1) (pa_cons pe_int pa_nil))) (pv 3) rfl)))))) (fun _ _ _ _ _ => (pv 3)))
      (pss_one (ps_ret (pe_call G_least_clauses (hr.mono (by decide)) rfl T.g_least_clauses T.F_least_clauses.kp T.b_least_clauses .nil pass0 (pa_cons (pe_lst (StX.pa_star (pv 2) (StX.pa_star (pe_call G_resolvents (hr.mono (by decide)) rfl T.g_resolvents T.F_resolvents.kp T.b_resolvents .nil pass0 (pa_cons (pv 0) (pa_cons (pv 1) pa_nil))) pa_nil))) pa_nil))))), ?_⟩
    refine fn_run0 h (fun as d hp => ?_) fun as d hp => ?_
    · obtain ⟨clauses, name, rfl, rfl⟩ := hp; simp
    · obtain ⟨clauses, name, rfl, rfl⟩ := hp
      refine ⟨_, (show f_eliminate_name clauses name = Res.noerr _ from rfl), ?_⟩
      refine ws_seq ?_
      refine ws_ctx (Γ' := [.val ((yTup K (yTup K (yPr K yStr yInt))) clauses), .val (yStr name), .any, .any]) rfl ?_
      refine ws_setL (yLst K (yTup K (yPr K yStr yInt))) ?_
      refine wx_fz ?_
      refine wx_lc (K := K) (yTup K (yPr K yStr yInt)) (yTup K (yPr K yStr yInt)) (fun q1 => ((!pin (name, (0 : Int)) q1) && (!pin (name, (1 : Int)) q1))) (fun q1 => q1) (gk_name (by decide)) ?_
      refine wi_tup ?_
      refine wx_var rfl ?_
      refine ⟨_, rfl, ?_⟩
      refine ⟨clauses, rfl, fun q1 => ?_, ?_⟩
      · refine wg_ctx (Γ' := [.val ((yTup K (yTup K (yPr K yStr yInt))) clauses), .val (yStr name), .any, .any]) rfl ?_
        refine wg_name (show 3 < 4 by decide) ?_
        refine wt_and (!pin (name, (1 : Int)) q1) ?_
        refine wt_b ?_
        refine wx_op ?_
        refine wx_tup (K := K) ?_
        refine wa_cons ?_
        refine wx_var rfl ?_
        refine ⟨_, rfl, ?_⟩
        refine wa_cons ?_
        refine wx_int ?_
        refine ⟨_, rfl, ?_⟩
        refine wa_nil ?_
        refine ⟨[yStr name, yInt (0 : Int)], rfl, show 2 ≤ 1000 by decide, ?_⟩
        refine ⟨_, rfl, ?_⟩
        refine wx_var rfl ?_
        refine ⟨_, rfl, ?_⟩
        refine rx_ninP (K := K) (t := (yPr K yStr yInt)) (x := (name, (0 : Int))) (ys := q1) (pTup K) (Nat.le_of_ble_eq_true rfl) ?_
        refine ⟨_, rfl, ?_⟩
        refine ⟨fun _ => ?_, ?_⟩
        · refine wt_b ?_
          refine wx_op ?_
          refine wx_tup (K := K) ?_
          refine wa_cons ?_
          refine wx_var rfl ?_
          refine ⟨_, rfl, ?_⟩
          refine wa_cons ?_
          refine wx_int ?_
          refine ⟨_, rfl, ?_⟩
          refine wa_nil ?_
          refine ⟨[yStr name, yInt (1 : Int)], rfl, show 2 ≤ 1000 by decide, ?_⟩
          refine ⟨_, rfl, ?_⟩
          refine wx_var rfl ?_
          refine ⟨_, rfl, ?_⟩
          refine rx_ninP (K := K) (t := (yPr K yStr yInt)) (x := (name, (1 : Int))) (ys := q1) (pTup K) (Nat.le_of_ble_eq_true rfl) ?_
          refine ⟨_, rfl, ?_⟩
          exact ⟨rfl, rfl, rfl⟩
        refine ⟨rfl, fun _ => ?_⟩
        refine wx_var rfl ?_
        exact rfl
      refine ⟨_, rfl, ?_⟩
      refine ⟨((clauses.filter fun q1 => ((!pin (name, (0 : Int)) q1) && (!pin (name, (1 : Int)) q1))).map fun q1 => q1), _, rfl, show 2 < 4 by decide, rfl, fun others => ?_⟩
      refine ws_ctx (Γ' := [.val ((yTup K (yTup K (yPr K yStr yInt))) clauses), .val (yStr name), .val ((yLst K (yTup K (yPr K yStr yInt))) others), .any]) rfl ?_
      refine ws_ret ?_
      refine wx_call ?_
      refine wa_cons ?_
      refine wx_toSeqL (K := K) ?_
      refine wx_fz ?_
      refine wx_lstG (K := K) (yTup K (yPr K yStr yInt)) ?_
      refine wa_star (K := K) (pLst K) ?_
      refine wx_var rfl ?_
      refine ⟨_, rfl, ?_⟩
      refine wa_star (K := K) (pLst K) ?_
      refine wx_fz ?_
      refine wx_call ?_
      refine wa_cons ?_
      refine wx_var rfl ?_
      refine ⟨_, rfl, ?_⟩
      refine wa_cons ?_
      refine wx_var rfl ?_
      refine ⟨_, rfl, ?_⟩
      refine wa_nil ?_
      refine rc_call _ _ _ ⟨clauses, name, rfl, rfl⟩ ⟨rfl, rfl, trivial⟩ (show List.Nodup ([] : List Nat) by decide) rfl (.inr fun _ z => by first | exact noerr_ne z | exact (nomatch z)) fun r1 _ => ?_
      refine ⟨_, rfl, ?_⟩
      refine ⟨_, rfl, ?_⟩
      refine wa_nil ?_
      refine ⟨(others ++ r1 : List (List (Str × Int))), _, by simp [vals], rfl, fun r2 => ?_⟩
      refine ⟨_, rfl, ?_⟩
      refine ⟨_, rfl, ?_⟩
      refine ⟨_, rfl, ?_⟩
      refine wa_nil ?_
      refine rc_call _ _ _ ⟨r2, rfl, rfl⟩ ⟨rfl, trivial⟩ (show List.Nodup ([] : List Nat) by decide) rfl (.inr fun _ z => by first | exact noerr_ne z | exact (nomatch z)) fun r3 _ => ?_
      exact ⟨_, rfl, rfl, (by first | trivial | exact ⟨rfl, trivial⟩ | exact ⟨rfl, rfl, trivial⟩)⟩
def pre_Bits_eliminate (K : PySem.W.Frag) (A : Nat → Addr) : List Ar → Cl → Prop := fun as d => ∃ (self : Unit) (theory : ((List Str) × (List (List (Str × Int))))) (name : Str), as = [.val ((yKind (A 28)) self), .val ((yPr K (yTup K yStr) (yTup K (yTup K (yPr K yStr yInt)))) theory), .val (yStr name)] ∧ d = ⟨(((List Str) × (List (List (Str × Int))))), f_Bits_eliminate self theory name, fun r => .val ((yPr K (yTup K yStr) (yTup K (yTup K (yPr K yStr yInt)))) r), fun r => []⟩
theorem ok_Bits_eliminate (T : Txt K mg A D) : FnOk P w K mg base CX0 4 (A 1566) (D 1566) ["self", "theory", "name"] (spM A (pre_Bits_eliminate K A)) := by
  refine T.F_Bits_eliminate.ok sc_Bits_eliminate (fun vs H Q E h => ?_) (fun cdv A' outer s H vs Q E hr h => ?_)
  · exact spM_len h fun as d hp => by obtain ⟨self, theory, name, rfl, rfl⟩ := hp; rfl
  · have hu := hu_of hr
    have G_eliminate_name : FnOk P w K mg base CX0 3 (A 23) (D 23) ["clauses", "name"] (spM A (pre_eliminate_name K A)) := ok_eliminate_name T
    have G_drop_name : FnOk P w K mg base CX0 1 (A 6) (D 6) ["names", "gone"] (spM A (pre_drop_name K A)) := ok_drop_name T
    refine ⟨_, (pss_one (ps_ret (pe_tup (pa_cons (pe_call G_drop_name (hr.mono (by decide)) rfl T.g_drop_name T.F_drop_name.kp T.b_drop_name .nil pass0 (pa_cons (pe_ix (xK_tup (K := K) rfl) (pv 1) pe_int (fun _ _ => rfl)) (pa_cons (pv 2) pa_nil))) (pa_cons (pe_call G_eliminate_name (hr.mono (by decide)) rfl T.g_eliminate_name T.F_eliminate_name.kp T.b_eliminate_name .nil pass0 (pa_cons (pe_ix (xK_tup (K := K) rfl) (pv 1) pe_int (fun _ _ => rfl)) (pa_cons (pv 2) pa_nil))) pa_nil))))), ?_⟩
    refine fn_run0 h (fun as d hp => ?_) fun as d hp => ?_
    · obtain ⟨self, theory, name, rfl, rfl⟩ := hp; simp
    · obtain ⟨self, theory, name, rfl, rfl⟩ := hp
      refine ⟨_, (show f_Bits_eliminate self theory name = Res.noerr _ from rfl), ?_⟩
      refine ws_ctx (Γ' := [.val ((yKind (A 28)) self), .val ((yPr K (yTup K yStr) (yTup K (yTup K (yPr K yStr yInt)))) theory), .val (yStr name)]) rfl ?_
      refine ws_ret ?_
      refine wx_tup (K := K) ?_
      refine wa_cons ?_
      refine wx_call ?_
      refine wa_cons ?_
      refine wx_op ?_
      refine wx_var rfl ?_
      refine ⟨_, rfl, ?_⟩
      refine wx_int ?_
      refine ⟨_, rfl, ?_⟩
      refine rx_ixT rfl ?_
      refine ⟨_, rfl, ?_⟩
      refine wa_cons ?_
      refine wx_var rfl ?_
      refine ⟨_, rfl, ?_⟩
      refine wa_nil ?_
      refine rc_callP _ _ (f_drop_name theory.1 name) ⟨theory.1, name, rfl, rfl⟩ ⟨rfl, rfl, trivial⟩ (show List.Nodup ([] : List Nat) by decide) rfl ?_
      refine ⟨_, rfl, ?_⟩
      refine wa_cons ?_
      refine wx_call ?_
      refine wa_cons ?_
      refine wx_op ?_
      refine wx_var rfl ?_
      refine ⟨_, rfl, ?_⟩
      refine wx_int ?_
      refine ⟨_, rfl, ?_⟩
      refine rx_ixT rfl ?_
      refine ⟨_, rfl, ?_⟩
      refine wa_cons ?_
      refine wx_var rfl ?_
      refine ⟨_, rfl, ?_⟩
      refine wa_nil ?_
      refine rc_call _ _ _ ⟨theory.2, name, rfl, rfl⟩ ⟨rfl, rfl, trivial⟩ (show List.Nodup ([] : List Nat) by decide) rfl (.inr fun _ z => by first | exact noerr_ne z | exact (nomatch z)) fun r1 _ => ?_
      refine ⟨_, rfl, ?_⟩
      refine wa_nil ?_
      refine ⟨[(yTup K yStr) (f_drop_name theory.1 name), (yTup K (yTup K (yPr K yStr yInt))) r1], rfl, show 2 ≤ 1000 by decide, ?_⟩
      exact ⟨_, rfl, rfl, (by first | trivial | exact ⟨rfl, trivial⟩ | exact ⟨rfl, rfl, trivial⟩)⟩
def pre_satisfies (K : PySem.W.Frag) (A : Nat → Addr) : List Ar → Cl → Prop := fun as d => ∃ (kind : Unit) (theory : ((List Str) × (List (List (Str × Int))))) (assignment : (List (Str × Int))), as = [.val ((yKind (A 28)) kind), .val ((yPr K (yTup K yStr) (yTup K (yTup K (yPr K yStr yInt)))) theory), .val ((yDct (κ := Str) yInt) assignment)] ∧ d = ⟨(Bool), f_satisfies kind theory assignment, fun r => .val (yBl r), fun r => []⟩
theorem ok_satisfies (T : Txt K mg A D) : FnOk P w K mg base CX0 2 (A 8) (D 8) ["kind", "theory", "assignment"] (spM A (pre_satisfies K A)) := by
  refine T.F_satisfies.ok sc_satisfies (fun vs H Q E h => ?_) (fun cdv A' outer s H vs Q E hr h => ?_)
  · exact spM_len h fun as d hp => by obtain ⟨kind, theory, assignment, rfl, rfl⟩ := hp; rfl
  · have hu := hu_of hr
    have G_Bits_holds : FnOk P w K mg base CX0 1 (A 1563) (D 1563) ["self", "constraint", "assignment"] (spM A (pre_Bits_holds K A)) := ok_Bits_holds T
    refine ⟨_, (pss_cons (ps_for PassesOwn.never rfl (iK_tup (K := K) rfl (pe_ix (xK_tup (K := K) rfl) (pv 1) pe_int (fun _ _ => rfl))) (pg_name (i := 3) sc_satisfies.nd rfl (Or.inl rfl))
        (pss_one (ps_if (pt_not (pt_val (methO_of (pe_meth (pv 0) T.cl_Bits T.M_Bits_holds G_Bits_holds (hr.mono (by decide)) T.b_Bits_holds .nil pass0 (pa_cons (pv 3) (pa_cons (pv 2) pa_nil))))))
          (pss_one (ps_ret pe_bl))
          pss_nil)))
      (pss_one (ps_ret pe_bl))), ?_⟩
    refine fn_run0 h (fun as d hp => ?_) fun as d hp => ?_
    · obtain ⟨kind, theory, assignment, rfl, rfl⟩ := hp; simp
    · obtain ⟨kind, theory, assignment, rfl, rfl⟩ := hp
      refine ⟨_, (show f_satisfies kind theory assignment = Res.noerr _ from rfl), ?_⟩
      refine ws_seq ?_
      refine ws_ctx (Γ' := [.val ((yKind (A 28)) kind), .val ((yPr K (yTup K yStr) (yTup K (yTup K (yPr K yStr yInt)))) theory), .val ((yDct (κ := Str) yInt) assignment), .any]) rfl ?_
      refine ws_forF (μ := Unit) (τ := (Bool)) (yTup K (yPr K yStr yInt)) ?_
      refine wi_tup ?_
      refine wx_op ?_
      refine wx_var rfl ?_
      refine ⟨_, rfl, ?_⟩
      refine wx_int ?_
      refine ⟨_, rfl, ?_⟩
      refine rx_ixT rfl ?_
      refine ⟨_, rfl, ?_⟩
      refine ⟨_, (fun s1 : Unit => [.val ((yKind (A 28)) kind), .val ((yPr K (yTup K yStr) (yTup K (yTup K (yPr K yStr yInt)))) theory), .val ((yDct (κ := Str) yInt) assignment), .any]), theory.2, _, _, _, rfl, rfl, by walk_at "subc", fun s1 q1 => ?_, fun s1 => ?_⟩
      · refine wg_name (show 3 < 4 by decide) ?_
        refine ws_ctx (Γ' := [.val ((yKind (A 28)) kind), .val ((yPr K (yTup K yStr) (yTup K (yTup K (yPr K yStr yInt)))) theory), .val ((yDct (κ := Str) yInt) assignment), .val ((yTup K (yPr K yStr yInt)) q1)]) rfl ?_
        refine ws_if ?_
        refine wt_not ?_
        refine wt_b ?_
        refine wx_meth ?_
        refine wx_var rfl ?_
        refine ⟨_, rfl, rfl, ?_⟩
        refine wa_cons ?_
        refine wx_var rfl ?_
        refine ⟨_, rfl, ?_⟩
        refine wa_cons ?_
        refine wx_var rfl ?_
        refine ⟨_, rfl, ?_⟩
        refine wa_nil ?_
        refine rc_call _ _ _ ⟨kind, q1, assignment, rfl, rfl⟩ ⟨rfl, rfl, rfl, trivial⟩ (show List.Nodup ([] : List Nat) by decide) rfl (.inr fun _ z => by first | exact noerr_ne z | exact (nomatch z)) fun r1 _ => ?_
        refine ⟨_, rfl, ?_⟩
        refine ⟨_, _, rfl, ?_, ?_⟩
        · refine ws_ctx (Γ' := [.val ((yKind (A 28)) kind), .val ((yPr K (yTup K yStr) (yTup K (yTup K (yPr K yStr yInt)))) theory), .val ((yDct (κ := Str) yInt) assignment), .val ((yTup K (yPr K yStr yInt)) q1)]) rfl ?_
          refine ws_ret ?_
          refine wx_bl ?_
          refine ⟨_, rfl, ?_⟩
          exact ⟨_, rfl, rfl, (by first | trivial | exact ⟨rfl, trivial⟩ | exact ⟨rfl, rfl, trivial⟩)⟩
        · refine ws_next ?_
          exact ⟨_, rfl, by walk_at "subc"⟩
      refine ws_ctx (Γ' := [.val ((yKind (A 28)) kind), .val ((yPr K (yTup K yStr) (yTup K (yTup K (yPr K yStr yInt)))) theory), .val ((yDct (κ := Str) yInt) assignment), .any]) rfl ?_
      refine ws_ret ?_
      refine wx_bl ?_
      exact ⟨_, rfl, rfl, (by first | trivial | exact ⟨rfl, trivial⟩ | exact ⟨rfl, rfl, trivial⟩)⟩
def pre_Bits_lift (K : PySem.W.Frag) (A : Nat → Addr) : List Ar → Cl → Prop := fun as d => ∃ (self : Unit) (theory : ((List Str) × (List (List (Str × Int))))) (name : Str) (assignment : (List (Str × Int))), as = [.val ((yKind (A 28)) self), .val ((yPr K (yTup K yStr) (yTup K (yTup K (yPr K yStr yInt)))) theory), .val (yStr name), .val ((yDct (κ := Str) yInt) assignment)] ∧ d = ⟨(Int), f_Bits_lift self theory name assignment, fun r => .val (yInt r), fun r => []⟩
theorem ok_Bits_lift (T : Txt K mg A D) : FnOk P w K mg base (L2.CX P w) 3 (A 1567) (D 1567) ["self", "theory", "name", "assignment"] (spM A (pre_Bits_lift K A)) := by
  refine T.F_Bits_lift.okX sc_Bits_lift (fun vs H Q E h => ?_) (fun cdv A' outer s H vs Q E hr h => ?_)
  · exact spM_len h fun as d hp => by obtain ⟨self, theory, name, assignment, rfl, rfl⟩ := hp; rfl
  · have hu := hu_of hr
    have G_satisfies : FnOk P w K mg base CX0 2 (A 8) (D 8) ["kind", "theory", "assignment"] (spM A (pre_satisfies K A)) := ok_satisfies T
    refine ⟨_, (pss_cons (ps_for (passes_of rfl) rfl (iK_tup (K := K) rfl (pe_tup (pa_cons pe_int (pa_cons pe_int pa_nil)))) (pg_name (i := 4) sc_Bits_lift.nd rfl (Or.inl rfl))
        (pss_one (ps_if (pt_val (pe_call G_satisfies (hr.mono (by decide)) rfl T.g_satisfies T.F_satisfies.kp T.b_satisfies .nil pass0 (pa_cons (pv 0) (pa_cons (pv 1) (pa_cons (pe_dstar1 (pv 3) (pv 2) (pv 4)) pa_nil)))))
          (pss_one (ps_ret (pv 4)))
          pss_nil)))
      (pss_one (ps_raise rfl (takes_of rfl rfl rfl rfl) (pmk_err0 T.E0_NoSolution rfl)))), ?_⟩
    refine fn_run h (fun as d hp => ?_) fun as d hp => ?_
    · obtain ⟨self, theory, name, assignment, rfl, rfl⟩ := hp; simp
    · obtain ⟨self, theory, name, assignment, rfl, rfl⟩ := hp
      refine ⟨_, f_Bits_lift.eq_def _ _ _ _, ?_⟩
      refine ws_seq ?_
      refine ws_ctx (Γ' := [.val ((yKind (A 28)) self), .val ((yPr K (yTup K yStr) (yTup K (yTup K (yPr K yStr yInt)))) theory), .val (yStr name), .val ((yDct (κ := Str) yInt) assignment), .any]) rfl ?_
      refine ws_forF (μ := Unit) (τ := (Int)) yInt ?_
      refine wi_tup ?_
      refine wx_tup (K := K) ?_
      refine wa_cons ?_
      refine wx_int ?_
      refine ⟨_, rfl, ?_⟩
      refine wa_cons ?_
      refine wx_int ?_
      refine ⟨_, rfl, ?_⟩
      refine wa_nil ?_
      refine ⟨[yInt (0 : Int), yInt (1 : Int)], rfl, show 2 ≤ 1000 by decide, ?_⟩
      refine ⟨_, rfl, ?_⟩
      refine ⟨_, (fun s1 : Unit => [.val ((yKind (A 28)) self), .val ((yPr K (yTup K yStr) (yTup K (yTup K (yPr K yStr yInt)))) theory), .val (yStr name), .val ((yDct (κ := Str) yInt) assignment), .any]), [((0 : Int), (1 : Int)).1, ((0 : Int), (1 : Int)).2], _, _, _, rfl, rfl, by walk_at "subc", fun s1 q1 => ?_, fun s1 => ?_⟩
      · refine wg_name (show 4 < 5 by decide) ?_
        refine ws_ctx (Γ' := [.val ((yKind (A 28)) self), .val ((yPr K (yTup K yStr) (yTup K (yTup K (yPr K yStr yInt)))) theory), .val (yStr name), .val ((yDct (κ := Str) yInt) assignment), .val (yInt q1)]) rfl ?_
        refine ws_if ?_
        refine wt_b ?_
        refine wx_call ?_
        refine wa_cons ?_
        refine wx_var rfl ?_
        refine ⟨_, rfl, ?_⟩
        refine wa_cons ?_
        refine wx_var rfl ?_
        refine ⟨_, rfl, ?_⟩
        refine wa_cons ?_
        refine wx_fz ?_
        refine wx_dstar1 (t := yInt) (tk := yStr) (d := assignment) (x := name) (y := q1) rfl (simp_var rfl) (simp_var rfl) rfl fun r1 => ?_
        refine ⟨_, rfl, ?_⟩
        refine ⟨_, rfl, ?_⟩
        refine wa_nil ?_
        refine rc_call _ _ _ ⟨self, theory, r1, rfl, rfl⟩ ⟨rfl, rfl, rfl, trivial⟩ (show List.Nodup ([] : List Nat) by decide) rfl (.inr fun _ z => by first | exact noerr_ne z | exact (nomatch z)) fun r2 _ => ?_
        refine ⟨_, rfl, ?_⟩
        refine ⟨_, _, rfl, ?_, ?_⟩
        · refine ws_ctx (Γ' := [.val ((yKind (A 28)) self), .val ((yPr K (yTup K yStr) (yTup K (yTup K (yPr K yStr yInt)))) theory), .val (yStr name), .val ((yDct (κ := Str) yInt) assignment), .val (yInt q1)]) rfl ?_
          refine ws_ret ?_
          refine wx_var rfl ?_
          refine ⟨_, rfl, ?_⟩
          exact ⟨_, rfl, rfl, (by first | trivial | exact ⟨rfl, trivial⟩ | exact ⟨rfl, rfl, trivial⟩)⟩
        · refine ws_next ?_
          exact ⟨_, rfl, by walk_at "subc"⟩
      refine ws_ctx (Γ' := [.val ((yKind (A 28)) self), .val ((yPr K (yTup K yStr) (yTup K (yTup K (yPr K yStr yInt)))) theory), .val (yStr name), .val ((yDct (κ := Str) yInt) assignment), .any]) rfl ?_
      exact ws_raise0 (n := 3) (fun _ _ _ h => h) rfl
def pre_Bits_ground (K : PySem.W.Frag) (A : Nat → Addr) : List Ar → Cl → Prop := fun as d => ∃ (self : Unit) (theory : ((List Str) × (List (List (Str × Int))))), as = [.val ((yKind (A 28)) self), .val ((yPr K (yTup K yStr) (yTup K (yTup K (yPr K yStr yInt)))) theory)] ∧ d = ⟨((Option (List (Str × Int)))), f_Bits_ground self theory, fun r => .val ((yOpt (yDct (κ := Str) yInt)) r), fun r => []⟩
theorem ok_Bits_ground (T : Txt K mg A D) : FnOk P w K mg base CX0 3 (A 1568) (D 1568) ["self", "theory"] (spM A (pre_Bits_ground K A)) := by
  refine T.F_Bits_ground.ok sc_Bits_ground (fun vs H Q E h => ?_) (fun cdv A' outer s H vs Q E hr h => ?_)
  · exact spM_len h fun as d hp => by obtain ⟨self, theory, rfl, rfl⟩ := hp; rfl
  · have hu := hu_of hr
    have G_satisfies : FnOk P w K mg base CX0 2 (A 8) (D 8) ["kind", "theory", "assignment"] (spM A (pre_satisfies K A)) := ok_satisfies T
    refine ⟨_, (pss_one (ps_ret (pe_ifExp (pt_val (pe_call G_satisfies (hr.mono (by decide)) rfl T.g_satisfies T.F_satisfies.kp T.b_satisfies .nil pass0 (pa_cons (pv 0) (pa_cons (pv 1) (pa_cons pe_dnewK pa_nil))))) pe_dnewK pe_non))), ?_⟩
    refine fn_run0 h (fun as d hp => ?_) fun as d hp => ?_
    · obtain ⟨self, theory, rfl, rfl⟩ := hp; simp
    · obtain ⟨self, theory, rfl, rfl⟩ := hp
      refine ⟨_, (show f_Bits_ground self theory = Res.noerr _ from rfl), ?_⟩
      refine ws_ctx (Γ' := [.val ((yKind (A 28)) self), .val ((yPr K (yTup K yStr) (yTup K (yTup K (yPr K yStr yInt)))) theory)]) rfl ?_
      refine ws_ret ?_
      refine wx_if (yOpt (yDct (κ := Str) yInt)) (some ([] : (List (Str × Int)))) (none : (Option (List (Str × Int)))) ?_
      refine wt_b ?_
      refine wx_call ?_
      refine wa_cons ?_
      refine wx_var rfl ?_
      refine ⟨_, rfl, ?_⟩
      refine wa_cons ?_
      refine wx_var rfl ?_
      refine ⟨_, rfl, ?_⟩
      refine wa_cons ?_
      refine wx_fz ?_
      refine wx_dnew ?_
      refine ⟨_, rfl, ?_⟩
      refine ⟨_, rfl, ?_⟩
      refine wa_nil ?_
      refine rc_call _ _ _ ⟨self, theory, ([] : (List (Str × Int))), rfl, rfl⟩ ⟨rfl, rfl, rfl, trivial⟩ (show List.Nodup ([] : List Nat) by decide) rfl (.inr fun _ z => by first | exact noerr_ne z | exact (nomatch z)) fun r1 _ => ?_
      refine ⟨_, rfl, ?_⟩
      refine ⟨fun _ => ?_, fun _ => ?_, ?_⟩
      · refine wx_fz ?_
        refine wx_dnew ?_
        refine ⟨_, rfl, ?_⟩
        exact ⟨rfl, rfl, rfl⟩
      · refine wx_non ?_
        exact ⟨rfl, rfl, rfl⟩
      exact ⟨_, rfl, rfl, (by first | trivial | exact ⟨rfl, trivial⟩ | exact ⟨rfl, rfl, trivial⟩)⟩
def pre_close_clauses (K : PySem.W.Frag) (A : Nat → Addr) : List Ar → Cl → Prop := fun as d => ∃ (clauses : (List (List (Str × Int)))) (names : (List Str)), as = [.val ((yTup K (yTup K (yPr K yStr yInt))) clauses), .val ((yTup K yStr) names)] ∧ d = ⟨((List (List (Str × Int)))), f_close_clauses clauses names, fun r => .val ((yTup K (yTup K (yPr K yStr yInt))) r), fun r => []⟩
theorem ok_close_clauses (T : Txt K mg A D) : FnOk P w K mg base CX0 3 (A 24) (D 24) ["clauses", "names"] (spM A (pre_close_clauses K A)) := by
  refine T.F_close_clauses.ok sc_close_clauses (fun vs H Q E h => ?_) (fun cdv A' outer s H vs Q E hr h => ?_)
  · exact spM_len h fun as d hp => by obtain ⟨clauses, names, rfl, rfl⟩ := hp; rfl
  · have hu := hu_of hr
    have G_least_clauses : FnOk P w K mg base CX0 2 (A 20) (D 20) ["clauses"] (spM A (pre_least_clauses K A)) := ok_least_clauses T
    have G_resolvents : FnOk P w K mg base CX0 2 (A 22) (D 22) ["clauses", "name"] (spM A (pre_resolvents K A)) := ok_resolvents T
    refine ⟨_, (pss_cons (ps_set (i := 2) sc_close_clauses.nd rfl (Or.inl rfl) (pe_call G_least_clauses (hr.mono (by decide)) rfl T.g_least_clauses T.F_least_clauses.kp T.b_least_clauses .nil pass0 (pa_cons (pv 0) pa_nil)))
      (pss_cons (ps_for PassesOwn.never rfl (iK_tup (K := K) rfl (pv 1)) (pg_name (i := 3) sc_close_clauses.nd rfl (Or.inl rfl))
        (pss_one (ps_set (i := 2) sc_close_clauses.nd rfl (Or.inl rfl) (pe_call G_least_clauses (hr.mono (by decide)) rfl T.g_least_clauses T.F_least_clauses.kp T.b_least_clauses .nil pass0 (pa_cons (pe_lst (StX.pa_star (pv 2) (StX.pa_star (pe_call G_resolvents (hr.mono (by decide)) rfl T.g_resolvents T.F_resolvents.kp T.b_resolvents .nil pass0 (pa_cons (pv 2) (pa_cons (pv 3) pa_nil))) pa_nil))) pa_nil)))))
      (pss_one (ps_ret (pv 2))))), ?_⟩
    refine fn_run0 h (fun as d hp => ?_) fun as d hp => ?_
    · obtain ⟨clauses, names, rfl, rfl⟩ := hp; simp
    · obtain ⟨clauses, names, rfl, rfl⟩ := hp
      refine ⟨_, (show f_close_clauses clauses names = Res.noerr _ from rfl), ?_⟩
      refine ws_seq ?_
      refine ws_ctx (Γ' := [.val ((yTup K (yTup K (yPr K yStr yInt))) clauses), .val ((yTup K yStr) names), .any, .any]) rfl ?_
      refine ws_setL (yTup K (yTup K (yPr K yStr yInt))) ?_
      refine wx_call ?_
      refine wa_cons ?_
      refine wx_toSeqT (K := K) ?_
      refine wx_var rfl ?_
      refine ⟨_, rfl, ?_⟩
      refine ⟨_, rfl, ?_⟩
      refine wa_nil ?_
      refine rc_call _ _ _ ⟨clauses, rfl, rfl⟩ ⟨rfl, trivial⟩ (show List.Nodup ([] : List Nat) by decide) rfl (.inr fun _ z => by first | exact noerr_ne z | exact (nomatch z)) fun r1 _ => ?_
      refine ⟨r1, _, rfl, show 2 < 4 by decide, rfl, fun found => ?_⟩
      refine ws_seq ?_
      refine ws_ctx (Γ' := [.val ((yTup K (yTup K (yPr K yStr yInt))) clauses), .val ((yTup K yStr) names), .val ((yTup K (yTup K (yPr K yStr yInt))) found), .any]) rfl ?_
      refine ws_for (μ := ((List (List (Str × Int))))) yStr ?_
      refine wi_tup ?_
      refine wx_var rfl ?_
      refine ⟨_, rfl, ?_⟩
      refine ⟨_, (fun s1 : ((List (List (Str × Int)))) => [.val ((yTup K (yTup K (yPr K yStr yInt))) clauses), .val ((yTup K yStr) names), .val ((yTup K (yTup K (yPr K yStr yInt))) s1), .any]), names, _, _, rfl, rfl, by walk_at "subc", fun s1 q1 => ?_, fun s1 => ?_⟩
      · refine wg_name (show 3 < 4 by decide) ?_
        refine ws_ctx (Γ' := [.val ((yTup K (yTup K (yPr K yStr yInt))) clauses), .val ((yTup K yStr) names), .val ((yTup K (yTup K (yPr K yStr yInt))) s1), .val (yStr q1)]) rfl ?_
        refine ws_setL (yTup K (yTup K (yPr K yStr yInt))) ?_
        refine wx_call ?_
        refine wa_cons ?_
        refine wx_toSeqL (K := K) ?_
        refine wx_fz ?_
        refine wx_lstG (K := K) (yTup K (yPr K yStr yInt)) ?_
        refine wa_star (K := K) (pTup K) ?_
        refine wx_var rfl ?_
        refine ⟨_, rfl, ?_⟩
        refine wa_star (K := K) (pLst K) ?_
        refine wx_fz ?_
        refine wx_call ?_
        refine wa_cons ?_
        refine wx_var rfl ?_
        refine ⟨_, rfl, ?_⟩
        refine wa_cons ?_
        refine wx_var rfl ?_
        refine ⟨_, rfl, ?_⟩
        refine wa_nil ?_
        refine rc_call _ _ _ ⟨s1, q1, rfl, rfl⟩ ⟨rfl, rfl, trivial⟩ (show List.Nodup ([] : List Nat) by decide) rfl (.inr fun _ z => by first | exact noerr_ne z | exact (nomatch z)) fun r2 _ => ?_
        refine ⟨_, rfl, ?_⟩
        refine ⟨_, rfl, ?_⟩
        refine wa_nil ?_
        refine ⟨(s1 ++ r2 : List (List (Str × Int))), _, by simp [vals], rfl, fun r3 => ?_⟩
        refine ⟨_, rfl, ?_⟩
        refine ⟨_, rfl, ?_⟩
        refine ⟨_, rfl, ?_⟩
        refine wa_nil ?_
        refine rc_call _ _ _ ⟨r3, rfl, rfl⟩ ⟨rfl, trivial⟩ (show List.Nodup ([] : List Nat) by decide) rfl (.inr fun _ z => by first | exact noerr_ne z | exact (nomatch z)) fun r4 _ => ?_
        refine ⟨r4, _, rfl, show 2 < 4 by decide, rfl, fun found => ?_⟩
        exact ⟨_, rfl, by walk_at "subc"⟩
      refine ws_ctx (Γ' := [.val ((yTup K (yTup K (yPr K yStr yInt))) clauses), .val ((yTup K yStr) names), .val ((yTup K (yTup K (yPr K yStr yInt))) s1), .any]) rfl ?_
      refine ws_ret ?_
      refine wx_var rfl ?_
      exact ⟨_, rfl, rfl, (by first | trivial | exact ⟨rfl, trivial⟩ | exact ⟨rfl, rfl, trivial⟩)⟩
def pre_Bits_normal (K : PySem.W.Frag) (A : Nat → Addr) : List Ar → Cl → Prop := fun as d => ∃ (self : Unit) (theory : ((List Str) × (List (List (Str × Int))))), as = [.val ((yKind (A 28)) self), .val ((yPr K (yTup K yStr) (yTup K (yTup K (yPr K yStr yInt)))) theory)] ∧ d = ⟨(((List Str) × (List (List (Str × Int))))), f_Bits_normal self theory, fun r => .val ((yPr K (yTup K yStr) (yTup K (yTup K (yPr K yStr yInt)))) r), fun r => []⟩
theorem ok_Bits_normal (T : Txt K mg A D) : FnOk P w K mg base CX0 4 (A 1569) (D 1569) ["self", "theory"] (spM A (pre_Bits_normal K A)) := by
  refine T.F_Bits_normal.ok sc_Bits_normal (fun vs H Q E h => ?_) (fun cdv A' outer s H vs Q E hr h => ?_)
  · exact spM_len h fun as d hp => by obtain ⟨self, theory, rfl, rfl⟩ := hp; rfl
  · have hu := hu_of hr
    have G_close_clauses : FnOk P w K mg base CX0 3 (A 24) (D 24) ["clauses", "names"] (spM A (pre_close_clauses K A)) := ok_close_clauses T
    refine ⟨_, (pss_one (ps_ret (pe_tup (pa_cons (pe_ix (xK_tup (K := K) rfl) (pv 1) pe_int (fun _ _ => rfl)) (pa_cons (pe_call G_close_clauses (hr.mono (by decide)) rfl T.g_close_clauses T.F_close_clauses.kp T.b_close_clauses .nil pass0 (pa_cons (pe_ix (xK_tup (K := K) rfl) (pv 1) pe_int (fun _ _ => rfl)) (pa_cons (pe_ix (xK_tup (K := K) rfl) (pv 1) pe_int (fun _ _ => rfl)) pa_nil))) pa_nil))))), ?_⟩
    refine fn_run0 h (fun as d hp => ?_) fun as d hp => ?_
    · obtain ⟨self, theory, rfl, rfl⟩ := hp; simp
    · obtain ⟨self, theory, rfl, rfl⟩ := hp
      refine ⟨_, (show f_Bits_normal self theory = Res.noerr _ from rfl), ?_⟩
      refine ws_ctx (Γ' := [.val ((yKind (A 28)) self), .val ((yPr K (yTup K yStr) (yTup K (yTup K (yPr K yStr yInt)))) theory)]) rfl ?_
      refine ws_ret ?_
      refine wx_tup (K := K) ?_
      refine wa_cons ?_
      refine wx_op ?_
      refine wx_var rfl ?_
      refine ⟨_, rfl, ?_⟩
      refine wx_int ?_
      refine ⟨_, rfl, ?_⟩
      refine rx_ixT rfl ?_
      refine ⟨_, rfl, ?_⟩
      refine wa_cons ?_
      refine wx_call ?_
      refine wa_cons ?_
      refine wx_op ?_
      refine wx_var rfl ?_
      refine ⟨_, rfl, ?_⟩
      refine wx_int ?_
      refine ⟨_, rfl, ?_⟩
      refine rx_ixT rfl ?_
      refine ⟨_, rfl, ?_⟩
      refine wa_cons ?_
      refine wx_op ?_
      refine wx_var rfl ?_
      refine ⟨_, rfl, ?_⟩
      refine wx_int ?_
      refine ⟨_, rfl, ?_⟩
      refine rx_ixT rfl ?_
      refine ⟨_, rfl, ?_⟩
      refine wa_nil ?_
      refine rc_call _ _ _ ⟨theory.2, theory.1, rfl, rfl⟩ ⟨rfl, rfl, trivial⟩ (show List.Nodup ([] : List Nat) by decide) rfl (.inr fun _ z => by first | exact noerr_ne z | exact (nomatch z)) fun r1 _ => ?_
      refine ⟨_, rfl, ?_⟩
      refine wa_nil ?_
      refine ⟨[(yTup K yStr) theory.1, (yTup K (yTup K (yPr K yStr yInt))) r1], rfl, show 2 ≤ 1000 by decide, ?_⟩
      exact ⟨_, rfl, rfl, (by first | trivial | exact ⟨rfl, trivial⟩ | exact ⟨rfl, rfl, trivial⟩)⟩
def pre_merge_names (K : PySem.W.Frag) (A : Nat → Addr) : List Ar → Cl → Prop := fun as d => ∃ (lists : (List (List Str))), as = [.val ((yTup K (ySeqq K yStr)) lists)] ∧ d = ⟨((List Str)), f_merge_names lists, fun r => .val ((yTup K yStr) r), fun r => []⟩
theorem ok_merge_names (T : Txt K mg A D) : FnR P w K mg base CX0 1 (A 5) (star 0 (spM A (pre_merge_names K A))) := by
  obtain ⟨oc0, od0, kV0, doc0, pm0, an0, cdv, ct0, osl0, e0, lk, hcd⟩ := T.F_merge_names.ex
  rw [e0] at lk
  refine StX.fn_star (ps := []) (pv := "lists") (sp := (spM A (pre_merge_names K A))) lk hcd sc_merge_names StX.cxUp_none (fun us rest hl => ?_) (fun A' outer s H vs Q E hr h => ?_)
  · match us, hl with | [], _ => cases rest <;> rfl
  · have hu := hu_of hr
    refine nox_ex ?_
    refine ⟨_, (pss_cons (ps_set (i := 1) sc_merge_names.nd rfl (Or.inl rfl) pe_dnewK)
      (pss_cons (ps_for PassesOwn.never rfl (iK_tup (K := K) rfl (pv 0)) (pg_name (i := 2) sc_merge_names.nd rfl (Or.inl rfl))
        (pss_one (ps_for PassesOwn.never rfl (pi_or (iK_list (K := K) rfl (pv 2)) (iK_tup (K := K) rfl (pv 2))) (pg_name (i := 3) sc_merge_names.nd rfl (Or.inl rfl))
          (pss_one (ps_dput hu (pv 1) (pv 3) pe_bl rfl)))))
      (pss_one (ps_ret (pe_callTy (T := "tuple") (cK_tuple (K := K) rfl) (by rfl) T.z_tuple (by decide +kernel) (pa_cons (pe_callB (id := "sorted") (cK_sortedS (K := K) rfl) (by rfl) T.z_sorted (by decide +kernel) (pa_cons (pe_callTy (T := "list") (call_listD rfl) (by rfl) T.z_list (by decide +kernel) (pa_cons (pv 1) pa_nil)) pa_nil)) pa_nil)))))), ?_⟩
    refine fn_run0 h (fun as d hp => ?_) fun as d hp => ?_
    · obtain ⟨lists, rfl, rfl⟩ := hp; simp
    · obtain ⟨lists, rfl, rfl⟩ := hp
      refine ⟨_, (show f_merge_names lists = Res.noerr _ from rfl), ?_⟩
      refine ws_seq ?_
      refine ws_ctx (Γ' := [.val ((yTup K (ySeqq K yStr)) lists), .any, .any, .any]) rfl ?_
      refine ws_setO (wDct (κ := Str) yBl) ?_
      refine wx_dnew ?_
      refine ⟨([] : (List (Str × Bool))), _, rfl, show 1 < 4 by decide, rfl, fun found => ?_⟩
      refine ws_seq ?_
      refine ws_ctx (Γ' := [.val ((yTup K (ySeqq K yStr)) lists), .own false ((wDct (κ := Str) yBl) found), .any, .any]) rfl ?_
      refine ws_for (μ := ((List (Str × Bool)))) (ySeqq K yStr) ?_
      refine wi_tup ?_
      refine wx_var rfl ?_
      refine ⟨_, rfl, ?_⟩
      refine ⟨_, (fun s1 : ((List (Str × Bool))) => [.val ((yTup K (ySeqq K yStr)) lists), .own false ((wDct (κ := Str) yBl) s1), .any, .any]), lists, _, _, rfl, rfl, by walk_at "subc", fun s1 q1 => ?_, fun s1 => ?_⟩
      · refine wg_name (show 2 < 4 by decide) ?_
        refine ws_ctx (Γ' := [.val ((yTup K (ySeqq K yStr)) lists), .own false ((wDct (κ := Str) yBl) s1), .val ((ySeqq K yStr) q1), .any]) rfl ?_
        refine ws_for (μ := ((List (Str × Bool)))) yStr ?_
        refine wi_seq rfl ?_
        refine ⟨_, (fun s2 : ((List (Str × Bool))) => [.val ((yTup K (ySeqq K yStr)) lists), .own false ((wDct (κ := Str) yBl) s2), .val ((ySeqq K yStr) q1), .any]), q1, _, _, rfl, rfl, by walk_at "subc", fun s2 q2 => ?_, fun s2 => ?_⟩
        · refine wg_name (show 3 < 4 by decide) ?_
          refine ws_ctx (Γ' := [.val ((yTup K (ySeqq K yStr)) lists), .own false ((wDct (κ := Str) yBl) s2), .val ((ySeqq K yStr) q1), .val (yStr q2)]) rfl ?_
          refine ws_dput (t := yBl) (tk := yStr) ?_
          refine wx_bl ?_
          refine ⟨true, rfl, ⟨_, _, rfl⟩, ?_⟩
          refine wx_var rfl ?_
          refine ⟨_, q2, _, s2, rfl, rfl, rfl, fun d1 => ?_⟩
          exact ⟨_, rfl, by walk_at "subc"⟩
        exact ⟨_, rfl, by walk_at "subc"⟩
      refine ws_ctx (Γ' := [.val ((yTup K (ySeqq K yStr)) lists), .own false ((wDct (κ := Str) yBl) s1), .any, .any]) rfl ?_
      refine ws_frz 1 rfl ?_
      refine ws_ret ?_
      refine wx_cb ?_
      refine wa_cons ?_
      refine wx_fz ?_
      refine wx_cb ?_
      refine wa_cons ?_
      refine wx_fz ?_
      refine wx_cb ?_
      refine wa_cons ?_
      refine wx_var rfl ?_
      refine ⟨_, rfl, ?_⟩
      refine wa_nil ?_
      refine rc_listD (K := K) (tk := yStr) (ks := dkeys s1) kpl_keys (by intros; rfl) ?_
      refine ⟨_, rfl, ?_⟩
      refine ⟨_, rfl, ?_⟩
      refine wa_nil ?_
      refine rc_sortS rfl ?_
      refine ⟨_, rfl, ?_⟩
      refine ⟨_, rfl, ?_⟩
      refine wa_nil ?_
      refine rc_tuple (pLst K) ?_
      exact ⟨_, rfl, rfl, (by first | trivial | exact ⟨rfl, trivial⟩ | exact ⟨rfl, rfl, trivial⟩)⟩
def pre_shadow (K : PySem.W.Frag) (A : Nat → Addr) : List Ar → Cl → Prop := fun as d => ∃ (kind : Unit) (theory : ((List Str) × (List (List (Str × Int))))) (shown : (List Str)), as = [.val ((yKind (A 28)) kind), .val ((yPr K (yTup K yStr) (yTup K (yTup K (yPr K yStr yInt)))) theory), .val ((yLst K yStr) shown)] ∧ d = ⟨(((List Str) × (List (List (Str × Int))))), f_shadow kind theory shown, fun r => .val ((yPr K (yTup K yStr) (yTup K (yTup K (yPr K yStr yInt)))) r), fun r => []⟩
theorem ok_shadow (T : Txt K mg A D) : FnOk P w K mg base CX0 5 (A 9) (D 9) ["kind", "theory", "shown"] (spM A (pre_shadow K A)) := by
  refine T.F_shadow.ok sc_shadow (fun vs H Q E h => ?_) (fun cdv A' outer s H vs Q E hr h => ?_)
  · exact spM_len h fun as d hp => by obtain ⟨kind, theory, shown, rfl, rfl⟩ := hp; rfl
  · have hu := hu_of hr
    have G_Bits_eliminate : FnOk P w K mg base CX0 4 (A 1566) (D 1566) ["self", "theory", "name"] (spM A (pre_Bits_eliminate K A)) := ok_Bits_eliminate T
    have G_Bits_normal : FnOk P w K mg base CX0 4 (A 1569) (D 1569) ["self", "theory"] (spM A (pre_Bits_normal K A)) := ok_Bits_normal T
    refine ⟨_, (pss_cons (ps_for PassesOwn.never rfl (iK_tup (K := K) rfl (pe_ix (xK_tup (K := K) rfl) (pv 1) pe_int (fun _ _ => rfl))) (pg_name (i := 3) sc_shadow.nd rfl (Or.inl rfl))
        (pss_one (ps_if (pt_cmpR (oP_nin (K := K) rfl hr.units) (pv 3) (pv 2) rfl)
          (pss_one (ps_set (i := 1) sc_shadow.nd rfl (Or.inl rfl) (methO_of (pe_meth (pv 0) T.cl_Bits T.M_Bits_eliminate G_Bits_eliminate (hr.mono (by decide)) T.b_Bits_eliminate .nil pass0 (pa_cons (pv 1) (pa_cons (pv 3) pa_nil))))))
          pss_nil)))
      (pss_one (ps_ret (methO_of (pe_meth (pv 0) T.cl_Bits T.M_Bits_normal G_Bits_normal (hr.mono (by decide)) T.b_Bits_normal .nil pass0 (pa_cons (pv 1) pa_nil)))))), ?_⟩
    refine fn_run0 h (fun as d hp => ?_) fun as d hp => ?_
    · obtain ⟨kind, theory, shown, rfl, rfl⟩ := hp; simp
    · obtain ⟨kind, theory, shown, rfl, rfl⟩ := hp
      refine ⟨_, (show f_shadow kind theory shown = Res.noerr _ from rfl), ?_⟩
      refine ws_seq ?_
      refine ws_ctx (Γ' := [.val ((yKind (A 28)) kind), .val ((yPr K (yTup K yStr) (yTup K (yTup K (yPr K yStr yInt)))) theory), .val ((yLst K yStr) shown), .any]) rfl ?_
      refine ws_for (μ := (((List Str) × (List (List (Str × Int)))))) yStr ?_
      refine wi_tup ?_
      refine wx_op ?_
      refine wx_var rfl ?_
      refine ⟨_, rfl, ?_⟩
      refine wx_int ?_
      refine ⟨_, rfl, ?_⟩
      refine rx_ixT rfl ?_
      refine ⟨_, rfl, ?_⟩
      refine ⟨_, (fun s1 : (((List Str) × (List (List (Str × Int))))) => [.val ((yKind (A 28)) kind), .val ((yPr K (yTup K yStr) (yTup K (yTup K (yPr K yStr yInt)))) s1), .val ((yLst K yStr) shown), .any]), theory.1, _, _, rfl, rfl, by walk_at "subc", fun s1 q1 => ?_, fun s1 => ?_⟩
      · refine wg_name (show 3 < 4 by decide) ?_
        refine ws_ctx (Γ' := [.val ((yKind (A 28)) kind), .val ((yPr K (yTup K yStr) (yTup K (yTup K (yPr K yStr yInt)))) s1), .val ((yLst K yStr) shown), .val (yStr q1)]) rfl ?_
        refine ws_if ?_
        refine wt_b ?_
        refine wx_op ?_
        refine wx_var rfl ?_
        refine ⟨_, rfl, ?_⟩
        refine wx_var rfl ?_
        refine ⟨_, rfl, ?_⟩
        refine rx_ninD (K := K) (t := yStr) (x := q1) (ys := shown) (pLst K) (Nat.le_of_ble_eq_true rfl) ?_
        refine ⟨_, rfl, ?_⟩
        refine ⟨_, _, rfl, ?_, ?_⟩
        · refine ws_ctx (Γ' := [.val ((yKind (A 28)) kind), .val ((yPr K (yTup K yStr) (yTup K (yTup K (yPr K yStr yInt)))) s1), .val ((yLst K yStr) shown), .val (yStr q1)]) rfl ?_
          refine ws_setL (yPr K (yTup K yStr) (yTup K (yTup K (yPr K yStr yInt)))) ?_
          refine wx_meth ?_
          refine wx_var rfl ?_
          refine ⟨_, rfl, rfl, ?_⟩
          refine wa_cons ?_
          refine wx_var rfl ?_
          refine ⟨_, rfl, ?_⟩
          refine wa_cons ?_
          refine wx_var rfl ?_
          refine ⟨_, rfl, ?_⟩
          refine wa_nil ?_
          refine rc_call _ _ _ ⟨kind, s1, q1, rfl, rfl⟩ ⟨rfl, rfl, rfl, trivial⟩ (show List.Nodup ([] : List Nat) by decide) rfl (.inr fun _ z => by first | exact noerr_ne z | exact (nomatch z)) fun r1 _ => ?_
          refine ⟨r1, _, rfl, show 1 < 4 by decide, rfl, fun theory => ?_⟩
          exact ⟨_, rfl, by walk_at "subc"⟩
        · refine ws_next ?_
          exact ⟨_, rfl, by walk_at "subc"⟩
      refine ws_ctx (Γ' := [.val ((yKind (A 28)) kind), .val ((yPr K (yTup K yStr) (yTup K (yTup K (yPr K yStr yInt)))) s1), .val ((yLst K yStr) shown), .any]) rfl ?_
      refine ws_ret ?_
      refine wx_meth ?_
      refine wx_var rfl ?_
      refine ⟨_, rfl, rfl, ?_⟩
      refine wa_cons ?_
      refine wx_var rfl ?_
      refine ⟨_, rfl, ?_⟩
      refine wa_nil ?_
      refine rc_call _ _ _ ⟨kind, s1, rfl, rfl⟩ ⟨rfl, rfl, trivial⟩ (show List.Nodup ([] : List Nat) by decide) rfl (.inr fun _ z => by first | exact noerr_ne z | exact (nomatch z)) fun r2 _ => ?_
      exact ⟨_, rfl, rfl, (by first | trivial | exact ⟨rfl, trivial⟩ | exact ⟨rfl, rfl, trivial⟩)⟩
def pre_eliminated (K : PySem.W.Frag) (A : Nat → Addr) : List Ar → Cl → Prop := fun as d => ∃ (kind : Unit) (theory : ((List Str) × (List (List (Str × Int))))) (names : (List Str)), as = [.val ((yKind (A 28)) kind), .val ((yPr K (yTup K yStr) (yTup K (yTup K (yPr K yStr yInt)))) theory), .val ((yLst K yStr) names)] ∧ d = ⟨((List ((List Str) × (List (List (Str × Int)))))), f_eliminated kind theory names, fun r => .val ((yLst K (yPr K (yTup K yStr) (yTup K (yTup K (yPr K yStr yInt))))) r), fun r => []⟩
theorem ok_eliminated (T : Txt K mg A D) : FnOk P w K mg base CX0 5 (A 10) (D 10) ["kind", "theory", "names"] (spM A (pre_eliminated K A)) := by
  refine T.F_eliminated.ok sc_eliminated (fun vs H Q E h => ?_) (fun cdv A' outer s H vs Q E hr h => ?_)
  · exact spM_len h fun as d hp => by obtain ⟨kind, theory, names, rfl, rfl⟩ := hp; rfl
  · have hu := hu_of hr
    have G_Bits_eliminate : FnOk P w K mg base CX0 4 (A 1566) (D 1566) ["self", "theory", "name"] (spM A (pre_Bits_eliminate K A)) := ok_Bits_eliminate T
    refine ⟨_, (pss_cons (ps_set (i := 3) sc_eliminated.nd rfl (Or.inl rfl) (pe_lst (pa_cons (pv 1) pa_nil)))
      (pss_cons (ps_for PassesOwn.never rfl (iK_list (K := K) rfl (pe_revL (pv 2))) (pg_name (i := 4) sc_eliminated.nd rfl (Or.inl rfl))
        (pss_one (ps_expr (pe_bm PySem.F.plainAttrs_list PySem.F.slot_list_append PySem.F.type_list_append mt_append (pv 3) (pa_cons (methO_of (pe_meth (pv 0) T.cl_Bits T.M_Bits_eliminate G_Bits_eliminate (hr.mono (by decide)) T.b_Bits_eliminate .nil pass0 (pa_cons (pe_ix (xK_list (K := K) rfl) (pv 3) (pe_un un_neg pe_int) (fun _ _ => rfl)) (pa_cons (pv 4) pa_nil)))) pa_nil)))))
      (pss_one (ps_ret (pv 3))))), ?_⟩
    refine fn_run0 h (fun as d hp => ?_) fun as d hp => ?_
    · obtain ⟨kind, theory, names, rfl, rfl⟩ := hp; simp
    · obtain ⟨kind, theory, names, rfl, rfl⟩ := hp
      refine ⟨_, (show f_eliminated kind theory names = Res.noerr _ from rfl), ?_⟩
      refine ws_seq ?_
      refine ws_ctx (Γ' := [.val ((yKind (A 28)) kind), .val ((yPr K (yTup K yStr) (yTup K (yTup K (yPr K yStr yInt)))) theory), .val ((yLst K yStr) names), .any, .any]) rfl ?_
      refine ws_setO (wLst K (yPr K (yTup K yStr) (yTup K (yTup K (yPr K yStr yInt))))) ?_
      refine wx_lst (K := K) ?_
      refine wa_cons ?_
      refine wx_var rfl ?_
      refine ⟨_, rfl, ?_⟩
      refine wa_nil ?_
      refine ⟨[(yPr K (yTup K yStr) (yTup K (yTup K (yPr K yStr yInt)))) theory], rfl, show 1 ≤ 1000 by decide, ?_⟩
      refine ⟨([theory] : List ((List Str) × (List (List (Str × Int))))), _, rfl, show 3 < 5 by decide, rfl, fun theories => ?_⟩
      refine ws_seq ?_
      refine ws_ctx (Γ' := [.val ((yKind (A 28)) kind), .val ((yPr K (yTup K yStr) (yTup K (yTup K (yPr K yStr yInt)))) theory), .val ((yLst K yStr) names), .own false ((wLst K (yPr K (yTup K yStr) (yTup K (yTup K (yPr K yStr yInt))))) theories), .any]) rfl ?_
      refine ws_for (μ := ((List ((List Str) × (List (List (Str × Int))))))) yStr ?_
      refine wi_list ?_
      refine wx_fz ?_
      refine wx_revL (K := K) yStr ?_
      refine wx_var rfl ?_
      refine ⟨names, rfl, ?_⟩
      refine ⟨_, rfl, ?_⟩
      refine ⟨_, rfl, ?_⟩
      refine ⟨_, (fun s1 : ((List ((List Str) × (List (List (Str × Int)))))) => [.val ((yKind (A 28)) kind), .val ((yPr K (yTup K yStr) (yTup K (yTup K (yPr K yStr yInt)))) theory), .val ((yLst K yStr) names), .own false ((wLst K (yPr K (yTup K yStr) (yTup K (yTup K (yPr K yStr yInt))))) s1), .any]), (names.reverse), _, _, rfl, rfl, by walk_at "subc", fun s1 q1 => ?_, fun s1 => ?_⟩
      · refine wg_name (show 4 < 5 by decide) ?_
        refine ws_ctx (Γ' := [.val ((yKind (A 28)) kind), .val ((yPr K (yTup K yStr) (yTup K (yTup K (yPr K yStr yInt)))) theory), .val ((yLst K yStr) names), .own false ((wLst K (yPr K (yTup K yStr) (yTup K (yTup K (yPr K yStr yInt))))) s1), .val (yStr q1)]) rfl ?_
        refine ws_append (yPr K (yTup K yStr) (yTup K (yTup K (yPr K yStr yInt)))) (xs0 := s1) rfl ?_
        refine wx_meth ?_
        refine wx_var rfl ?_
        refine ⟨_, rfl, rfl, ?_⟩
        refine wa_cons ?_
        refine wx_peek ?_
        refine wx_op ?_
        refine wx_var rfl ?_
        refine ⟨_, rfl, ?_⟩
        refine wx_un ?_
        refine wx_int ?_
        refine ⟨_, rfl, ?_⟩
        refine ru_neg ?_
        refine ⟨_, rfl, ?_⟩
        refine rx_ixLp (t := (yPr K (yTup K yStr) (yTup K (yTup K (yPr K yStr yInt))))) (xs := s1) rfl fun r1 => ?_
        refine ⟨_, rfl, (imm_pr (imm_yTup fun _ => imm_str) (imm_yTup fun _ => (imm_yTup fun _ => (imm_pr imm_str imm_int)))), ?_⟩
        refine ⟨_, rfl, ?_⟩
        refine wa_cons ?_
        refine wx_var rfl ?_
        refine ⟨_, rfl, ?_⟩
        refine wa_nil ?_
        refine rc_call _ _ _ ⟨kind, r1, q1, rfl, rfl⟩ ⟨rfl, rfl, rfl, trivial⟩ (show List.Nodup ([] : List Nat) by decide) rfl (.inr fun _ z => by first | exact noerr_ne z | exact (nomatch z)) fun r2 _ => ?_
        refine ⟨_, s1, r2, _, rfl, rfl, rfl, fun z1 => ?_⟩
        exact ⟨_, rfl, by walk_at "subc"⟩
      refine ws_ctx (Γ' := [.val ((yKind (A 28)) kind), .val ((yPr K (yTup K yStr) (yTup K (yTup K (yPr K yStr yInt)))) theory), .val ((yLst K yStr) names), .own false ((wLst K (yPr K (yTup K yStr) (yTup K (yTup K (yPr K yStr yInt))))) s1), .any]) rfl ?_
      refine ws_frz 3 rfl ?_
      refine ws_ret ?_
      refine wx_var rfl ?_
      exact ⟨_, rfl, rfl, (by first | trivial | exact ⟨rfl, trivial⟩ | exact ⟨rfl, rfl, trivial⟩)⟩
def pre_lifted (K : PySem.W.Frag) (A : Nat → Addr) : List Ar → Cl → Prop := fun as d => ∃ (kind : Unit) (theories : (List ((List Str) × (List (List (Str × Int)))))) (names : (List Str)) (assignment : (List (Str × Int))), as = [.val ((yKind (A 28)) kind), .val ((yLst K (yPr K (yTup K yStr) (yTup K (yTup K (yPr K yStr yInt))))) theories), .val ((yLst K yStr) names), .val ((yDct (κ := Str) yInt) assignment)] ∧ d = ⟨((List (Str × Int))), f_lifted kind theories names assignment, fun r => .val ((yDct (κ := Str) yInt) r), fun r => []⟩
theorem ok_lifted (T : Txt K mg A D) : FnOk P w K mg base CX0 4 (A 11) (D 11) ["kind", "theories", "names", "assignment"] (spM A (pre_lifted K A)) := by
  refine T.F_lifted.ok sc_lifted (fun vs H Q E h => ?_) (fun cdv A' outer s H vs Q E hr h => ?_)
  · exact spM_len h fun as d hp => by obtain ⟨kind, theories, names, assignment, rfl, rfl⟩ := hp; rfl
  · have hu := hu_of hr
    have G_Bits_lift : FnOk P w K mg base (L2.CX P w) 3 (A 1567) (D 1567) ["self", "theory", "name", "assignment"] (spM A (pre_Bits_lift K A)) := ok_Bits_lift T
    refine ⟨_, (pss_cons (ps_set (i := 4) sc_lifted.nd rfl (Or.inl rfl) (pe_callTy (T := "dict") call_dictD (by rfl) T.z_dict (by decide +kernel) (pa_cons (pv 3) pa_nil)))
      (pss_cons (ps_for PassesOwn.never rfl (pi_range1 rfl T.z_range (pa_cons (pe_callB (id := "len") (cK_len (K := K) rfl) (by rfl) T.z_len (by decide +kernel) (pa_cons (pv 2) pa_nil)) pa_nil)) (pg_name (i := 5) sc_lifted.nd rfl (Or.inl rfl))
        (pss_one (ps_dput hu (pv 4) (pe_ix (xK_list (K := K) rfl) (pv 2) (pv 5) (fun _ _ => rfl)) (methO_of (pe_meth (pv 0) T.cl_Bits T.M_Bits_lift G_Bits_lift (hr.mono (by decide)) T.b_Bits_lift .nil (E := fun _ _ _ => False) (fun pins σ => passAt takes0 σ pins) (pa_cons (pe_ix (xK_list (K := K) rfl) (pv 1) (pe_op op_sub (pe_op op_sub (pe_callB (id := "len") (cK_len (K := K) rfl) (by rfl) T.z_len (by decide +kernel) (pa_cons (pv 2) pa_nil)) pe_int) (pv 5)) (fun _ _ => rfl)) (pa_cons (pe_ix (xK_list (K := K) rfl) (pv 2) (pv 5) (fun _ _ => rfl)) (pa_cons (pv 4) pa_nil))))) rfl)))
      (pss_one (ps_ret (pv 4))))), ?_⟩
    refine fn_runN h (fun as d hp => ?_) fun as d hp => ?_
    · obtain ⟨kind, theories, names, assignment, rfl, rfl⟩ := hp; simp
    · obtain ⟨kind, theories, names, assignment, rfl, rfl⟩ := hp
      refine ⟨_, (show f_lifted kind theories names assignment = Res.noerr _ from rfl), ?_⟩
      refine ws_seq ?_
      refine ws_ctx (Γ' := [.val ((yKind (A 28)) kind), .val ((yLst K (yPr K (yTup K yStr) (yTup K (yTup K (yPr K yStr yInt))))) theories), .val ((yLst K yStr) names), .val ((yDct (κ := Str) yInt) assignment), .any, .any]) rfl ?_
      refine ws_setO (wDct (κ := Str) yInt) ?_
      refine wx_cb ?_
      refine wa_cons ?_
      refine wx_var rfl ?_
      refine ⟨_, rfl, ?_⟩
      refine wa_nil ?_
      refine rc_dict ?_
      refine ⟨assignment, _, rfl, show 4 < 6 by decide, rfl, fun found => ?_⟩
      refine ws_seq ?_
      refine ws_ctx (Γ' := [.val ((yKind (A 28)) kind), .val ((yLst K (yPr K (yTup K yStr) (yTup K (yTup K (yPr K yStr yInt))))) theories), .val ((yLst K yStr) names), .val ((yDct (κ := Str) yInt) assignment), .own false ((wDct (κ := Str) yInt) found), .any]) rfl ?_
      refine ws_for (μ := ((List (Str × Int)))) yInt ?_
      refine wi_rng1 ?_
      refine wa_cons ?_
      refine wx_cb ?_
      refine wa_cons ?_
      refine wx_var rfl ?_
      refine ⟨_, rfl, ?_⟩
      refine wa_nil ?_
      refine rc_lenSq (pLst K) ?_
      rw [List.length_map]
      refine ⟨_, rfl, ?_⟩
      refine wa_nil ?_
      refine ⟨_, _, rfl, rfl, ?_⟩
      refine ⟨_, (fun s1 : ((List (Str × Int))) => [.val ((yKind (A 28)) kind), .val ((yLst K (yPr K (yTup K yStr) (yTup K (yTup K (yPr K yStr yInt))))) theories), .val ((yLst K yStr) names), .val ((yDct (κ := Str) yInt) assignment), .own false ((wDct (κ := Str) yInt) s1), .any]), (rng 0 ((names.length : Int)).toNat), _, _, rfl, rfl, by walk_at "subc", fun s1 q1 => ?_, fun s1 => ?_⟩
      · refine wg_name (show 5 < 6 by decide) ?_
        refine ws_ctx (Γ' := [.val ((yKind (A 28)) kind), .val ((yLst K (yPr K (yTup K yStr) (yTup K (yTup K (yPr K yStr yInt))))) theories), .val ((yLst K yStr) names), .val ((yDct (κ := Str) yInt) assignment), .own false ((wDct (κ := Str) yInt) s1), .val (yInt q1)]) rfl ?_
        refine ws_dput (t := yInt) (tk := yStr) ?_
        refine wx_peek ?_
        refine wx_meth ?_
        refine wx_var rfl ?_
        refine ⟨_, rfl, rfl, ?_⟩
        refine wa_cons ?_
        refine wx_op ?_
        refine wx_var rfl ?_
        refine ⟨_, rfl, ?_⟩
        refine wx_op ?_
        refine wx_op ?_
        refine wx_cb ?_
        refine wa_cons ?_
        refine wx_var rfl ?_
        refine ⟨_, rfl, ?_⟩
        refine wa_nil ?_
        refine rc_lenSq (pLst K) ?_
        rw [List.length_map]
        refine ⟨_, rfl, ?_⟩
        refine wx_int ?_
        refine ⟨_, rfl, ?_⟩
        refine rx_ari rfl ?_
        refine ⟨_, rfl, ?_⟩
        refine wx_var rfl ?_
        refine ⟨_, rfl, ?_⟩
        refine rx_ari rfl ?_
        refine ⟨_, rfl, ?_⟩
        refine rx_ixLp (t := (yPr K (yTup K yStr) (yTup K (yTup K (yPr K yStr yInt))))) (xs := theories) rfl fun r2 => ?_
        refine ⟨_, rfl, ?_⟩
        refine wa_cons ?_
        refine wx_op ?_
        refine wx_var rfl ?_
        refine ⟨_, rfl, ?_⟩
        refine wx_var rfl ?_
        refine ⟨_, rfl, ?_⟩
        refine rx_ixLp (t := yStr) (xs := names) rfl fun r3 => ?_
        refine ⟨_, rfl, ?_⟩
        refine wa_cons ?_
        refine wx_var rfl ?_
        refine ⟨_, rfl, ?_⟩
        refine wa_nil ?_
        refine rc_call _ _ _ ⟨kind, r2, r3, s1, rfl, rfl⟩ ⟨rfl, rfl, rfl, rfl, trivial⟩ (show List.Nodup ([] : List Nat) by decide) rfl (.inl rfl) fun r4 _ => ?_
        refine ⟨_, rfl, imm_int, ?_⟩
        refine ⟨r4, rfl, ⟨_, _, rfl⟩, ?_⟩
        refine wx_op ?_
        refine wx_var rfl ?_
        refine ⟨_, rfl, ?_⟩
        refine wx_var rfl ?_
        refine ⟨_, rfl, ?_⟩
        refine rx_ixLp (t := yStr) (xs := names) rfl fun r5 => ?_
        refine ⟨_, r5, _, s1, rfl, rfl, rfl, fun d1 => ?_⟩
        exact ⟨_, rfl, by walk_at "subc"⟩
      refine ws_ctx (Γ' := [.val ((yKind (A 28)) kind), .val ((yLst K (yPr K (yTup K yStr) (yTup K (yTup K (yPr K yStr yInt))))) theories), .val ((yLst K yStr) names), .val ((yDct (κ := Str) yInt) assignment), .own false ((wDct (κ := Str) yInt) s1), .any]) rfl ?_
      refine ws_frz 4 rfl ?_
      refine ws_ret ?_
      refine wx_var rfl ?_
      exact ⟨_, rfl, rfl, (by first | trivial | exact ⟨rfl, trivial⟩ | exact ⟨rfl, rfl, trivial⟩)⟩
def pre_solve (K : PySem.W.Frag) (A : Nat → Addr) : List Ar → Cl → Prop := fun as d => ∃ (kind : Unit) (theory : ((List Str) × (List (List (Str × Int))))), as = [.val ((yKind (A 28)) kind), .val ((yPr K (yTup K yStr) (yTup K (yTup K (yPr K yStr yInt)))) theory)] ∧ d = ⟨((Option (List (Str × Int)))), f_solve kind theory, fun r => .val ((yOpt (yDct (κ := Str) yInt)) r), fun r => []⟩
theorem ok_solve (T : Txt K mg A D) : FnOk P w K mg base CX0 6 (A 12) (D 12) ["kind", "theory"] (spM A (pre_solve K A)) := by
  refine T.F_solve.ok sc_solve (fun vs H Q E h => ?_) (fun cdv A' outer s H vs Q E hr h => ?_)
  · exact spM_len h fun as d hp => by obtain ⟨kind, theory, rfl, rfl⟩ := hp; rfl
  · have hu := hu_of hr
    have G_eliminated : FnOk P w K mg base CX0 5 (A 10) (D 10) ["kind", "theory", "names"] (spM A (pre_eliminated K A)) := ok_eliminated T
    have G_Bits_ground : FnOk P w K mg base CX0 3 (A 1568) (D 1568) ["self", "theory"] (spM A (pre_Bits_ground K A)) := ok_Bits_ground T
    have G_lifted : FnOk P w K mg base CX0 4 (A 11) (D 11) ["kind", "theories", "names", "assignment"] (spM A (pre_lifted K A)) := ok_lifted T
    refine ⟨_, (pss_cons (ps_set (i := 2) sc_solve.nd rfl (Or.inl rfl) (pe_callTy (T := "list") (cK_list (K := K) rfl) (by rfl) T.z_list (by decide +kernel) (pa_cons (pe_ix (xK_tup (K := K) rfl) (pv 1) pe_int (fun _ _ => rfl)) pa_nil)))
      (pss_cons (ps_set (i := 3) sc_solve.nd rfl (Or.inl rfl) (pe_call G_eliminated (hr.mono (by decide)) rfl T.g_eliminated T.F_eliminated.kp T.b_eliminated .nil pass0 (pa_cons (pv 0) (pa_cons (pv 1) (pa_cons (pv 2) pa_nil)))))
      (pss_cons (ps_set (i := 4) sc_solve.nd rfl (Or.inl rfl) (methO_of (pe_meth (pv 0) T.cl_Bits T.M_Bits_ground G_Bits_ground (hr.mono (by decide)) T.b_Bits_ground .nil pass0 (pa_cons (pe_ix (xK_list (K := K) rfl) (pv 3) (pe_un un_neg pe_int) (fun _ _ => rfl)) pa_nil))))
      (pss_cons (ps_if (pt_cmpR op_isN (pv 4) pe_non (nomark _))
        (pss_one (ps_ret pe_non))
        pss_nil)
      (pss_one (ps_ret (pe_call G_lifted (hr.mono (by decide)) rfl T.g_lifted T.F_lifted.kp T.b_lifted .nil pass0 (pa_cons (pv 0) (pa_cons (pv 3) (pa_cons (pv 2) (pa_cons (pv 4) pa_nil))))))))))), ?_⟩
    refine fn_run0 h (fun as d hp => ?_) fun as d hp => ?_
    · obtain ⟨kind, theory, rfl, rfl⟩ := hp; simp
    · obtain ⟨kind, theory, rfl, rfl⟩ := hp
      refine ⟨_, (show f_solve kind theory = Res.noerr _ from rfl), ?_⟩
      refine ws_seq ?_
      refine ws_ctx (Γ' := [.val ((yKind (A 28)) kind), .val ((yPr K (yTup K yStr) (yTup K (yTup K (yPr K yStr yInt)))) theory), .any, .any, .any]) rfl ?_
      refine ws_setL (yLst K yStr) ?_
      refine wx_fz ?_
      refine wx_cb ?_
      refine wa_cons ?_
      refine wx_op ?_
      refine wx_var rfl ?_
      refine ⟨_, rfl, ?_⟩
      refine wx_int ?_
      refine ⟨_, rfl, ?_⟩
      refine rx_ixT rfl ?_
      refine ⟨_, rfl, ?_⟩
      refine wa_nil ?_
      refine rc_list (pTup K) ?_
      refine ⟨_, rfl, ?_⟩
      refine ⟨theory.1, _, rfl, show 2 < 5 by decide, rfl, fun names => ?_⟩
      refine ws_seq ?_
      refine ws_ctx (Γ' := [.val ((yKind (A 28)) kind), .val ((yPr K (yTup K yStr) (yTup K (yTup K (yPr K yStr yInt)))) theory), .val ((yLst K yStr) names), .any, .any]) rfl ?_
      refine ws_setL (yLst K (yPr K (yTup K yStr) (yTup K (yTup K (yPr K yStr yInt))))) ?_
      refine wx_call ?_
      refine wa_cons ?_
      refine wx_var rfl ?_
      refine ⟨_, rfl, ?_⟩
      refine wa_cons ?_
      refine wx_var rfl ?_
      refine ⟨_, rfl, ?_⟩
      refine wa_cons ?_
      refine wx_var rfl ?_
      refine ⟨_, rfl, ?_⟩
      refine wa_nil ?_
      refine rc_call _ _ _ ⟨kind, theory, names, rfl, rfl⟩ ⟨rfl, rfl, rfl, trivial⟩ (show List.Nodup ([] : List Nat) by decide) rfl (.inr fun _ z => by first | exact noerr_ne z | exact (nomatch z)) fun r1 _ => ?_
      refine ⟨r1, _, rfl, show 3 < 5 by decide, rfl, fun theories => ?_⟩
      refine ws_seq ?_
      refine ws_ctx (Γ' := [.val ((yKind (A 28)) kind), .val ((yPr K (yTup K yStr) (yTup K (yTup K (yPr K yStr yInt)))) theory), .val ((yLst K yStr) names), .val ((yLst K (yPr K (yTup K yStr) (yTup K (yTup K (yPr K yStr yInt))))) theories), .any]) rfl ?_
      refine ws_setL (yOpt (yDct (κ := Str) yInt)) ?_
      refine wx_meth ?_
      refine wx_var rfl ?_
      refine ⟨_, rfl, rfl, ?_⟩
      refine wa_cons ?_
      refine wx_op ?_
      refine wx_var rfl ?_
      refine ⟨_, rfl, ?_⟩
      refine wx_un ?_
      refine wx_int ?_
      refine ⟨_, rfl, ?_⟩
      refine ru_neg ?_
      refine ⟨_, rfl, ?_⟩
      refine rx_ixLp (t := (yPr K (yTup K yStr) (yTup K (yTup K (yPr K yStr yInt))))) (xs := theories) rfl fun r2 => ?_
      refine ⟨_, rfl, ?_⟩
      refine wa_nil ?_
      refine rc_call _ _ _ ⟨kind, r2, rfl, rfl⟩ ⟨rfl, rfl, trivial⟩ (show List.Nodup ([] : List Nat) by decide) rfl (.inr fun _ z => by first | exact noerr_ne z | exact (nomatch z)) fun r3 _ => ?_
      refine ⟨r3, _, rfl, show 4 < 5 by decide, rfl, fun ground => ?_⟩
      refine ws_seq ?_
      refine ws_ctx (Γ' := [.val ((yKind (A 28)) kind), .val ((yPr K (yTup K yStr) (yTup K (yTup K (yPr K yStr yInt)))) theory), .val ((yLst K yStr) names), .val ((yLst K (yPr K (yTup K yStr) (yTup K (yTup K (yPr K yStr yInt))))) theories), .val ((yOpt (yDct (κ := Str) yInt)) ground)]) rfl ?_
      refine ws_if ?_
      refine wt_b ?_
      refine wx_op ?_
      refine wx_var rfl ?_
      refine ⟨_, rfl, ?_⟩
      refine wx_non ?_
      refine ⟨_, rfl, ?_⟩
      refine rx_isN (t := (yDct (κ := Str) yInt)) (x := ground) (by walk_at "nonn") ?_
      refine ⟨_, rfl, ?_⟩
      refine ⟨_, _, rfl, ?_, ?_⟩
      · refine ws_ctx (Γ' := [.val ((yKind (A 28)) kind), .val ((yPr K (yTup K yStr) (yTup K (yTup K (yPr K yStr yInt)))) theory), .val ((yLst K yStr) names), .val ((yLst K (yPr K (yTup K yStr) (yTup K (yTup K (yPr K yStr yInt))))) theories), .val ((yOpt (yDct (κ := Str) yInt)) ground)]) rfl ?_
        refine ws_ret ?_
        refine wx_non ?_
        exact ⟨_, rfl, rfl, (by first | trivial | exact ⟨rfl, trivial⟩ | exact ⟨rfl, rfl, trivial⟩)⟩
      · refine ws_next ?_
        refine ws_ctx (Γ' := [.val ((yKind (A 28)) kind), .val ((yPr K (yTup K yStr) (yTup K (yTup K (yPr K yStr yInt)))) theory), .val ((yLst K yStr) names), .val ((yLst K (yPr K (yTup K yStr) (yTup K (yTup K (yPr K yStr yInt))))) theories), .val ((yOpt (yDct (κ := Str) yInt)) ground)]) rfl ?_
        refine ws_ret ?_
        refine wx_call ?_
        refine wa_cons ?_
        refine wx_var rfl ?_
        refine ⟨_, rfl, ?_⟩
        refine wa_cons ?_
        refine wx_var rfl ?_
        refine ⟨_, rfl, ?_⟩
        refine wa_cons ?_
        refine wx_var rfl ?_
        refine ⟨_, rfl, ?_⟩
        refine wa_cons ?_
        refine wx_unw (yDct (κ := Str) yInt) ?_
        refine wx_var rfl ?_
        refine ⟨ground, _, rfl, rfl, fun r4 => ?_⟩
        refine ⟨_, rfl, ?_⟩
        refine wa_nil ?_
        refine rc_call _ _ _ ⟨kind, theories, names, r4, rfl, rfl⟩ ⟨rfl, rfl, rfl, rfl, trivial⟩ (show List.Nodup ([] : List Nat) by decide) rfl (.inr fun _ z => by first | exact noerr_ne z | exact (nomatch z)) fun r5 _ => ?_
        exact ⟨_, rfl, rfl, (by first | trivial | exact ⟨rfl, trivial⟩ | exact ⟨rfl, rfl, trivial⟩)⟩
def pre_join (K : PySem.W.Frag) (A : Nat → Addr) : List Ar → Cl → Prop := fun as d => ∃ (theories : (List ((List Str) × (List (List (Str × Int)))))), as = [.val ((ySeqq K (yPr K (yTup K yStr) (yTup K (yTup K (yPr K yStr yInt))))) theories)] ∧ d = ⟨(((List Str) × (List (List (Str × Int))))), f_join theories, fun r => .val ((yPr K (yTup K yStr) (yTup K (yTup K (yPr K yStr yInt)))) r), fun r => []⟩
theorem ok_join (T : Txt K mg A D) : FnOk P w K mg base CX0 2 (A 14) (D 14) ["theories"] (spM A (pre_join K A)) := by
  refine T.F_join.ok sc_join (fun vs H Q E h => ?_) (fun cdv A' outer s H vs Q E hr h => ?_)
  · exact spM_len h fun as d hp => by obtain ⟨theories, rfl, rfl⟩ := hp; rfl
  · have hu := hu_of hr
    have G_merge_names : FnR P w K mg base CX0 1 (A 5) (star 0 (spM A (pre_merge_names K A))) := ok_merge_names T
    refine ⟨_, (pss_cons (ps_set (i := 1) sc_join.nd rfl (Or.inl rfl) (pe_tup pa_nil))
      (pss_cons (ps_set (i := 2) sc_join.nd rfl (Or.inl rfl) (pe_lst pa_nil))
      (pss_cons (ps_for PassesOwn.never rfl (pi_or (iK_list (K := K) rfl (pv 0)) (iK_tup (K := K) rfl (pv 0))) (pg_name (i := 3) sc_join.nd rfl (Or.inl rfl))
        (pss_cons (ps_set (i := 1) sc_join.nd rfl (Or.inl rfl) (pe_callF G_merge_names (hr.mono (by decide)) T.F_merge_names.kp rfl T.g_merge_names pass0 (pa_cons (pv 1) (pa_cons (pe_ix (xK_tup (K := K) rfl) (pv 3) pe_int (fun _ _ => rfl)) pa_nil))))
        (pss_one (ps_expr (pe_bm PySem.F.plainAttrs_list PySem.F.slot_list_extend PySem.F.type_list_extend (mt_extendT (K := K) rfl) (pv 2) (pa_cons (pe_ix (xK_tup (K := K) rfl) (pv 3) pe_int (fun _ _ => rfl)) pa_nil))))))
      (pss_one (ps_ret (pe_tup (pa_cons (pv 1) (pa_cons (pe_callTy (T := "tuple") (cK_tuple (K := K) rfl) (by rfl) T.z_tuple (by decide +kernel) (pa_cons (pv 2) pa_nil)) pa_nil)))))))), ?_⟩
    refine fn_run0 h (fun as d hp => ?_) fun as d hp => ?_
    · obtain ⟨theories, rfl, rfl⟩ := hp; simp
    · obtain ⟨theories, rfl, rfl⟩ := hp
      refine ⟨_, (show f_join theories = Res.noerr _ from rfl), ?_⟩
      refine ws_seq ?_
      refine ws_ctx (Γ' := [.val ((ySeqq K (yPr K (yTup K yStr) (yTup K (yTup K (yPr K yStr yInt))))) theories), .any, .any, .any]) rfl ?_
      refine ws_setL (yTup K yStr) ?_
      refine wx_tup (K := K) ?_
      refine wa_nil ?_
      refine ⟨[], rfl, show 0 ≤ 1000 by decide, ?_⟩
      refine ⟨([] : (List Str)), _, rfl, show 1 < 4 by decide, rfl, fun names => ?_⟩
      refine ws_seq ?_
      refine ws_ctx (Γ' := [.val ((ySeqq K (yPr K (yTup K yStr) (yTup K (yTup K (yPr K yStr yInt))))) theories), .val ((yTup K yStr) names), .any, .any]) rfl ?_
      refine ws_setO (wLst K (yTup K (yPr K yStr yInt))) ?_
      refine wx_lst (K := K) ?_
      refine wa_nil ?_
      refine ⟨[], rfl, show 0 ≤ 1000 by decide, ?_⟩
      refine ⟨([] : List (List (Str × Int))), _, rfl, show 2 < 4 by decide, rfl, fun constraints => ?_⟩
      refine ws_seq ?_
      refine ws_ctx (Γ' := [.val ((ySeqq K (yPr K (yTup K yStr) (yTup K (yTup K (yPr K yStr yInt))))) theories), .val ((yTup K yStr) names), .own false ((wLst K (yTup K (yPr K yStr yInt))) constraints), .any]) rfl ?_
      refine ws_for (μ := ((List Str) × (List (List (Str × Int))))) (yPr K (yTup K yStr) (yTup K (yTup K (yPr K yStr yInt)))) ?_
      refine wi_seq rfl ?_
      refine ⟨_, (fun s1 : ((List Str) × (List (List (Str × Int)))) => [.val ((ySeqq K (yPr K (yTup K yStr) (yTup K (yTup K (yPr K yStr yInt))))) theories), .val ((yTup K yStr) s1.1), .own false ((wLst K (yTup K (yPr K yStr yInt))) s1.2), .any]), theories, _, _, rfl, rfl, by walk_at "subc", fun s1 q1 => ?_, fun s1 => ?_⟩
      · refine wg_name (show 3 < 4 by decide) ?_
        refine ws_seq ?_
        refine ws_ctx (Γ' := [.val ((ySeqq K (yPr K (yTup K yStr) (yTup K (yTup K (yPr K yStr yInt))))) theories), .val ((yTup K yStr) s1.1), .own false ((wLst K (yTup K (yPr K yStr yInt))) s1.2), .val ((yPr K (yTup K yStr) (yTup K (yTup K (yPr K yStr yInt)))) q1)]) rfl ?_
        refine ws_setL (yTup K yStr) ?_
        refine wx_callF ?_
        refine wa_cons ?_
        refine wx_toSeqT (K := K) ?_
        refine wx_var rfl ?_
        refine ⟨_, rfl, ?_⟩
        refine ⟨_, rfl, ?_⟩
        refine wa_cons ?_
        refine wx_toSeqT (K := K) ?_
        refine wx_op ?_
        refine wx_var rfl ?_
        refine ⟨_, rfl, ?_⟩
        refine wx_int ?_
        refine ⟨_, rfl, ?_⟩
        refine rx_ixT rfl ?_
        refine ⟨_, rfl, ?_⟩
        refine ⟨_, rfl, ?_⟩
        refine wa_nil ?_
        refine rc_star (K := K) (ps := [(ySeqq K yStr) s1.1, (ySeqq K yStr) q1.1]) [] (show 2 ≤ 1000 by decide) ?_
        refine rc_call _ _ _ ⟨([s1.1, q1.1] : List (List Str)), rfl, rfl⟩ ⟨rfl, trivial⟩ (show List.Nodup ([] : List Nat) by decide) rfl (.inr fun _ z => noerr_ne z) fun r1 _ => ?_
        refine ⟨r1, _, rfl, show 1 < 4 by decide, rfl, fun names => ?_⟩
        refine ws_ctx (Γ' := [.val ((ySeqq K (yPr K (yTup K yStr) (yTup K (yTup K (yPr K yStr yInt))))) theories), .val ((yTup K yStr) names), .own false ((wLst K (yTup K (yPr K yStr yInt))) s1.2), .val ((yPr K (yTup K yStr) (yTup K (yTup K (yPr K yStr yInt)))) q1)]) rfl ?_
        refine ws_extendT (yTup K (yPr K yStr yInt)) (xs0 := s1.2) rfl ?_
        refine wx_op ?_
        refine wx_var rfl ?_
        refine ⟨_, rfl, ?_⟩
        refine wx_int ?_
        refine ⟨_, rfl, ?_⟩
        refine rx_ixT rfl ?_
        refine ⟨_, s1.2, q1.2, _, rfl, rfl, rfl, fun z1 => ?_⟩
        exact ⟨_, rfl, by walk_at "subc"⟩
      refine ws_ctx (Γ' := [.val ((ySeqq K (yPr K (yTup K yStr) (yTup K (yTup K (yPr K yStr yInt))))) theories), .val ((yTup K yStr) s1.1), .own false ((wLst K (yTup K (yPr K yStr yInt))) s1.2), .any]) rfl ?_
      refine ws_frz 2 rfl ?_
      refine ws_ret ?_
      refine wx_tup (K := K) ?_
      refine wa_cons ?_
      refine wx_var rfl ?_
      refine ⟨_, rfl, ?_⟩
      refine wa_cons ?_
      refine wx_cb ?_
      refine wa_cons ?_
      refine wx_var rfl ?_
      refine ⟨_, rfl, ?_⟩
      refine wa_nil ?_
      refine rc_tuple (pLst K) ?_
      refine ⟨_, rfl, ?_⟩
      refine wa_nil ?_
      refine ⟨[(yTup K yStr) s1.1, (yTup K (yTup K (yPr K yStr yInt))) s1.2], rfl, show 2 ≤ 1000 by decide, ?_⟩
      exact ⟨_, rfl, rfl, (by first | trivial | exact ⟨rfl, trivial⟩ | exact ⟨rfl, rfl, trivial⟩)⟩
def pre_middles (K : PySem.W.Frag) (A : Nat → Addr) : List Ar → Cl → Prop := fun as d => ∃ (kind : Unit) (theories : (List ((List Str) × (List (List (Str × Int)))))), as = [.val ((yKind (A 28)) kind), .val ((yTup K (yPr K (yTup K yStr) (yTup K (yTup K (yPr K yStr yInt))))) theories)] ∧ d = ⟨((Option (List ((List Str) × (List (List (Str × Int))))))), f_middles kind theories, fun r => .val ((yOpt (yTup K (yPr K (yTup K yStr) (yTup K (yTup K (yPr K yStr yInt)))))) r), fun r => []⟩
theorem ok_middles (T : Txt K mg A D) : FnR P w K mg base CX0 7 (A 17) (star 1 (spM A (pre_middles K A))) := by
  obtain ⟨oc0, od0, kV0, doc0, pm0, an0, cdv, ct0, osl0, e0, lk, hcd⟩ := T.F_middles.ex
  rw [e0] at lk
  refine StX.fn_star (ps := ["kind"]) (pv := "theories") (sp := (spM A (pre_middles K A))) lk hcd sc_middles StX.cxUp_none (fun us rest hl => ?_) (fun A' outer s H vs Q E hr h => ?_)
  · match us, hl with | [_], _ => cases rest <;> rfl
  · have hu := hu_of hr
    have G_join : FnOk P w K mg base CX0 2 (A 14) (D 14) ["theories"] (spM A (pre_join K A)) := ok_join T
    have G_shadow : FnOk P w K mg base CX0 5 (A 9) (D 9) ["kind", "theory", "shown"] (spM A (pre_shadow K A)) := ok_shadow T
    have G_solve : FnOk P w K mg base CX0 6 (A 12) (D 12) ["kind", "theory"] (spM A (pre_solve K A)) := ok_solve T
    refine nox_ex ?_
    refine ⟨_, (pss_cons (ps_set (i := 2) sc_middles.nd rfl (Or.inl rfl) (pe_tup (pa_cons (pe_tup pa_nil) (pa_cons (pe_tup pa_nil) pa_nil))))
      (pss_cons (ps_set (i := 3) sc_middles.nd rfl (Or.inl rfl) (pe_lst pa_nil))
      (pss_cons (ps_for PassesOwn.never rfl (pi_range1 rfl T.z_range (pa_cons (pe_op op_sub (pe_callB (id := "len") (cK_len (K := K) rfl) (by rfl) T.z_len (by decide +kernel) (pa_cons (pv 1) pa_nil)) pe_int) pa_nil)) (pg_name (i := 4) sc_middles.nd rfl (Or.inl rfl))
        (pss_cons (ps_set (i := 2) sc_middles.nd rfl (Or.inl rfl) (pe_call G_join (hr.mono (by decide)) rfl T.g_join T.F_join.kp T.b_join .nil pass0 (pa_cons (pe_lst (pa_cons (pv 2) (pa_cons (pe_ix (xK_tup (K := K) rfl) (pv 1) (pv 4) (fun _ _ => rfl)) pa_nil))) pa_nil)))
        (pss_cons (ps_set (i := 5) sc_middles.nd rfl (Or.inr rfl) (pe_ix (xK_tup (K := K) rfl) (pe_call G_join (hr.mono (by decide)) rfl T.g_join T.F_join.kp T.b_join .nil pass0 (pa_cons (pe_slice (sK_tupA (K := K) rfl) (pv 1) (po_some (pe_op op_add (pv 4) pe_int)) po_none) pa_nil)) pe_int (fun _ _ => rfl)))
        (pss_cons (ps_set (i := 2) sc_middles.nd rfl (Or.inl rfl) (pe_callN G_shadow (hr.mono (by decide)) rfl T.g_shadow T.F_shadow.kp T.kn_shadow pass0 (pa_cons (pv 0) (pa_cons (pv 2) pa_nil)) (pk_cons (pe_lc (own := [("name", 6)]) (g := gName 6)  rfl sc_middles.nd (iK_tup (K := K) rfl (pe_ix (xK_tup (K := K) rfl) (pv 2) pe_int (fun _ _ => rfl))) (blkOk_by (N := N_middles) (sc := defScope (topS 17)) (by decide +kernel)) (fun _ _ _ _ _ => (pg_name (i := 6) sc_middles.nd rfl (Or.inl rfl))) (fun _ _ _ _ _ => (pts_one (pt_cmpR (oP_in (K := K) rfl hr.units) (pv 6) (pv 5) rfl))) (fun _ _ _ _ _ => (pv 6))) pk_nil)))
        (pss_one (ps_expr (pe_bm PySem.F.plainAttrs_list PySem.F.slot_list_append PySem.F.type_list_append mt_append (pv 3) (pa_cons (pv 2) pa_nil))))))))
      (pss_cons (ps_if (pt_cmpR op_notN (pe_call G_solve (hr.mono (by decide)) rfl T.g_solve T.F_solve.kp T.b_solve .nil pass0 (pa_cons (pv 0) (pa_cons (pe_call G_join (hr.mono (by decide)) rfl T.g_join T.F_join.kp T.b_join .nil pass0 (pa_cons (pe_lst (pa_cons (pv 2) (StX.pa_star (pe_slice (sK_tupA (K := K) rfl) (pv 1) (po_some (pe_un un_neg pe_int)) po_none) pa_nil))) pa_nil)) pa_nil))) pe_non (nomark _))
        (pss_one (ps_ret pe_non))
        pss_nil)
      (pss_one (ps_ret (pe_callTy (T := "tuple") (cK_tuple (K := K) rfl) (by rfl) T.z_tuple (by decide +kernel) (pa_cons (pv 3) pa_nil)))))))), ?_⟩
    refine fn_run0 h (fun as d hp => ?_) fun as d hp => ?_
    · obtain ⟨kind, theories, rfl, rfl⟩ := hp; simp
    · obtain ⟨kind, theories, rfl, rfl⟩ := hp
      refine ⟨_, (show f_middles kind theories = Res.noerr _ from rfl), ?_⟩
      refine ws_seq ?_
      refine ws_ctx (Γ' := [.val ((yKind (A 28)) kind), .val ((yTup K (yPr K (yTup K yStr) (yTup K (yTup K (yPr K yStr yInt))))) theories), .any, .any, .any, .any, .any]) rfl ?_
      refine ws_setL (yPr K (yTup K yStr) (yTup K (yTup K (yPr K yStr yInt)))) ?_
      refine wx_tup (K := K) ?_
      refine wa_cons ?_
      refine wx_tup (K := K) ?_
      refine wa_nil ?_
      refine ⟨[], rfl, show 0 ≤ 1000 by decide, ?_⟩
      refine ⟨_, rfl, ?_⟩
      refine wa_cons ?_
      refine wx_tup (K := K) ?_
      refine wa_nil ?_
      refine ⟨[], rfl, show 0 ≤ 1000 by decide, ?_⟩
      refine ⟨_, rfl, ?_⟩
      refine wa_nil ?_
      refine ⟨[(yTup K yStr) ([] : (List Str)), (yTup K (yTup K (yPr K yStr yInt))) ([] : (List (List (Str × Int))))], rfl, show 2 ≤ 1000 by decide, ?_⟩
      refine ⟨(([] : (List Str)), ([] : (List (List (Str × Int))))), _, rfl, show 2 < 7 by decide, rfl, fun held => ?_⟩
      refine ws_seq ?_
      refine ws_ctx (Γ' := [.val ((yKind (A 28)) kind), .val ((yTup K (yPr K (yTup K yStr) (yTup K (yTup K (yPr K yStr yInt))))) theories), .val ((yPr K (yTup K yStr) (yTup K (yTup K (yPr K yStr yInt)))) held), .any, .any, .any, .any]) rfl ?_
      refine ws_setO (wLst K (yPr K (yTup K yStr) (yTup K (yTup K (yPr K yStr yInt))))) ?_
      refine wx_lst (K := K) ?_
      refine wa_nil ?_
      refine ⟨[], rfl, show 0 ≤ 1000 by decide, ?_⟩
      refine ⟨([] : List ((List Str) × (List (List (Str × Int))))), _, rfl, show 3 < 7 by decide, rfl, fun found => ?_⟩
      refine ws_seq ?_
      refine ws_ctx (Γ' := [.val ((yKind (A 28)) kind), .val ((yTup K (yPr K (yTup K yStr) (yTup K (yTup K (yPr K yStr yInt))))) theories), .val ((yPr K (yTup K yStr) (yTup K (yTup K (yPr K yStr yInt)))) held), .own false ((wLst K (yPr K (yTup K yStr) (yTup K (yTup K (yPr K yStr yInt))))) found), .any, .any, .any]) rfl ?_
      refine ws_for (μ := (((List Str) × (List (List (Str × Int)))) × (List ((List Str) × (List (List (Str × Int))))))) yInt ?_
      refine wi_rng1 ?_
      refine wa_cons ?_
      refine wx_op ?_
      refine wx_cb ?_
      refine wa_cons ?_
      refine wx_var rfl ?_
      refine ⟨_, rfl, ?_⟩
      refine wa_nil ?_
      refine rc_lenSq (pTup K) ?_
      rw [List.length_map]
      refine ⟨_, rfl, ?_⟩
      refine wx_int ?_
      refine ⟨_, rfl, ?_⟩
      refine rx_ari rfl ?_
      refine ⟨_, rfl, ?_⟩
      refine wa_nil ?_
      refine ⟨_, _, rfl, rfl, ?_⟩
      refine ⟨_, (fun s1 : (((List Str) × (List (List (Str × Int)))) × (List ((List Str) × (List (List (Str × Int)))))) => [.val ((yKind (A 28)) kind), .val ((yTup K (yPr K (yTup K yStr) (yTup K (yTup K (yPr K yStr yInt))))) theories), .val ((yPr K (yTup K yStr) (yTup K (yTup K (yPr K yStr yInt)))) s1.1), .own false ((wLst K (yPr K (yTup K yStr) (yTup K (yTup K (yPr K yStr yInt))))) s1.2), .any, .any, .any]), (rng 0 (((theories.length : Int) - (1 : Int))).toNat), _, _, rfl, rfl, by walk_at "subc", fun s1 q1 => ?_, fun s1 => ?_⟩
      · refine wg_name (show 4 < 7 by decide) ?_
        refine ws_seq ?_
        refine ws_ctx (Γ' := [.val ((yKind (A 28)) kind), .val ((yTup K (yPr K (yTup K yStr) (yTup K (yTup K (yPr K yStr yInt))))) theories), .val ((yPr K (yTup K yStr) (yTup K (yTup K (yPr K yStr yInt)))) s1.1), .own false ((wLst K (yPr K (yTup K yStr) (yTup K (yTup K (yPr K yStr yInt))))) s1.2), .val (yInt q1), .any, .any]) rfl ?_
        refine ws_setL (yPr K (yTup K yStr) (yTup K (yTup K (yPr K yStr yInt)))) ?_
        refine wx_call ?_
        refine wa_cons ?_
        refine wx_toSeqL (K := K) ?_
        refine wx_fz ?_
        refine wx_lst (K := K) ?_
        refine wa_cons ?_
        refine wx_var rfl ?_
        refine ⟨_, rfl, ?_⟩
        refine wa_cons ?_
        refine wx_op ?_
        refine wx_var rfl ?_
        refine ⟨_, rfl, ?_⟩
        refine wx_var rfl ?_
        refine ⟨_, rfl, ?_⟩
        refine rx_ixTp (t := (yPr K (yTup K yStr) (yTup K (yTup K (yPr K yStr yInt))))) (xs := theories) rfl fun r2 => ?_
        refine ⟨_, rfl, ?_⟩
        refine wa_nil ?_
        refine ⟨[(yPr K (yTup K yStr) (yTup K (yTup K (yPr K yStr yInt)))) s1.1, (yPr K (yTup K yStr) (yTup K (yTup K (yPr K yStr yInt)))) r2], rfl, show 2 ≤ 1000 by decide, ?_⟩
        refine ⟨_, rfl, ?_⟩
        refine ⟨_, rfl, ?_⟩
        refine ⟨_, rfl, ?_⟩
        refine wa_nil ?_
        refine rc_call _ _ _ ⟨([s1.1, r2] : List ((List Str) × (List (List (Str × Int))))), rfl, rfl⟩ ⟨rfl, trivial⟩ (show List.Nodup ([] : List Nat) by decide) rfl (.inr fun _ z => by first | exact noerr_ne z | exact (nomatch z)) fun r3 _ => ?_
        refine ⟨r3, _, rfl, show 2 < 7 by decide, rfl, fun held => ?_⟩
        refine ws_seq ?_
        refine ws_ctx (Γ' := [.val ((yKind (A 28)) kind), .val ((yTup K (yPr K (yTup K yStr) (yTup K (yTup K (yPr K yStr yInt))))) theories), .val ((yPr K (yTup K yStr) (yTup K (yTup K (yPr K yStr yInt)))) held), .own false ((wLst K (yPr K (yTup K yStr) (yTup K (yTup K (yPr K yStr yInt))))) s1.2), .val (yInt q1), .any, .any]) rfl ?_
        refine ws_setL (yTup K yStr) ?_
        refine wx_op ?_
        refine wx_call ?_
        refine wa_cons ?_
        refine wx_toSeqT (K := K) ?_
        refine wx_slT ?_
        refine wx_var rfl ?_
        refine ⟨_, rfl, ?_⟩
        refine wo_some ?_
        refine wx_op ?_
        refine wx_var rfl ?_
        refine ⟨_, rfl, ?_⟩
        refine wx_int ?_
        refine ⟨_, rfl, ?_⟩
        refine rx_ari rfl ?_
        refine ⟨_, rfl, ?_⟩
        refine wo_no ?_
        rw [pcut_map]
        refine ⟨_, rfl, ?_⟩
        refine ⟨_, rfl, ?_⟩
        refine wa_nil ?_
        refine rc_call _ _ _ ⟨(pcut theories (some (q1 + (1 : Int))) none), rfl, rfl⟩ ⟨rfl, trivial⟩ (show List.Nodup ([] : List Nat) by decide) rfl (.inr fun _ z => by first | exact noerr_ne z | exact (nomatch z)) fun r4 _ => ?_
        refine ⟨_, rfl, ?_⟩
        refine wx_int ?_
        refine ⟨_, rfl, ?_⟩
        refine rx_ixT rfl ?_
        refine ⟨r4.1, _, rfl, show 5 < 7 by decide, rfl, fun later => ?_⟩
        refine ws_seq ?_
        refine ws_ctx (Γ' := [.val ((yKind (A 28)) kind), .val ((yTup K (yPr K (yTup K yStr) (yTup K (yTup K (yPr K yStr yInt))))) theories), .val ((yPr K (yTup K yStr) (yTup K (yTup K (yPr K yStr yInt)))) held), .own false ((wLst K (yPr K (yTup K yStr) (yTup K (yTup K (yPr K yStr yInt))))) s1.2), .val (yInt q1), .val ((yTup K yStr) later), .any]) rfl ?_
        refine ws_setL (yPr K (yTup K yStr) (yTup K (yTup K (yPr K yStr yInt)))) ?_
        refine wx_callN_2_1 ?_
        refine wa_cons ?_
        refine wx_var rfl ?_
        refine ⟨_, rfl, ?_⟩
        refine wa_cons ?_
        refine wx_var rfl ?_
        refine ⟨_, rfl, ?_⟩
        refine wa_cons ?_
        refine wx_fz ?_
        refine wx_lc (K := K) yStr yStr (fun q2 => (decide (q2 ∈ later))) (fun q2 => q2) (gk_name (by decide)) ?_
        refine wi_tup ?_
        refine wx_op ?_
        refine wx_var rfl ?_
        refine ⟨_, rfl, ?_⟩
        refine wx_int ?_
        refine ⟨_, rfl, ?_⟩
        refine rx_ixT rfl ?_
        refine ⟨_, rfl, ?_⟩
        refine ⟨held.1, rfl, fun q2 => ?_, ?_⟩
        · refine wg_ctx (Γ' := [.val ((yKind (A 28)) kind), .val ((yTup K (yPr K (yTup K yStr) (yTup K (yTup K (yPr K yStr yInt))))) theories), .val ((yPr K (yTup K yStr) (yTup K (yTup K (yPr K yStr yInt)))) held), .any, .val (yInt q1), .val ((yTup K yStr) later), .any]) rfl ?_
          refine wg_name (show 6 < 7 by decide) ?_
          refine wt_b ?_
          refine wx_op ?_
          refine wx_var rfl ?_
          refine ⟨_, rfl, ?_⟩
          refine wx_var rfl ?_
          refine ⟨_, rfl, ?_⟩
          refine rx_inD (K := K) (t := yStr) (x := q2) (ys := later) (pTup K) (Nat.le_of_ble_eq_true rfl) ?_
          refine ⟨_, rfl, ?_⟩
          refine ⟨rfl, fun _ => ?_⟩
          refine wx_var rfl ?_
          exact rfl
        refine ⟨_, rfl, ?_⟩
        refine ⟨_, rfl, ?_⟩
        refine wa_nil ?_
        refine ⟨rfl, ?_⟩
        refine rc_call _ _ _ ⟨kind, held, ((held.1.filter fun q2 => (decide (q2 ∈ later))).map fun q2 => q2), rfl, rfl⟩ ⟨rfl, rfl, rfl, trivial⟩ (show List.Nodup ([] : List Nat) by decide) rfl (.inr fun _ z => by first | exact noerr_ne z | exact (nomatch z)) fun r5 _ => ?_
        refine ⟨r5, _, rfl, show 2 < 7 by decide, rfl, fun held => ?_⟩
        refine ws_ctx (Γ' := [.val ((yKind (A 28)) kind), .val ((yTup K (yPr K (yTup K yStr) (yTup K (yTup K (yPr K yStr yInt))))) theories), .val ((yPr K (yTup K yStr) (yTup K (yTup K (yPr K yStr yInt)))) held), .own false ((wLst K (yPr K (yTup K yStr) (yTup K (yTup K (yPr K yStr yInt))))) s1.2), .val (yInt q1), .val ((yTup K yStr) later), .any]) rfl ?_
        refine ws_append (yPr K (yTup K yStr) (yTup K (yTup K (yPr K yStr yInt)))) (xs0 := s1.2) rfl ?_
        refine wx_var rfl ?_
        refine ⟨_, s1.2, held, _, rfl, rfl, rfl, fun z1 => ?_⟩
        exact ⟨_, rfl, by walk_at "subc"⟩
      refine ws_seq ?_
      refine ws_ctx (Γ' := [.val ((yKind (A 28)) kind), .val ((yTup K (yPr K (yTup K yStr) (yTup K (yTup K (yPr K yStr yInt))))) theories), .val ((yPr K (yTup K yStr) (yTup K (yTup K (yPr K yStr yInt)))) s1.1), .own false ((wLst K (yPr K (yTup K yStr) (yTup K (yTup K (yPr K yStr yInt))))) s1.2), .any, .any, .any]) rfl ?_
      refine ws_if ?_
      refine wt_b ?_
      refine wx_op ?_
      refine wx_call ?_
      refine wa_cons ?_
      refine wx_var rfl ?_
      refine ⟨_, rfl, ?_⟩
      refine wa_cons ?_
      refine wx_call ?_
      refine wa_cons ?_
      refine wx_toSeqL (K := K) ?_
      refine wx_fz ?_
      refine wx_lstG (K := K) (yPr K (yTup K yStr) (yTup K (yTup K (yPr K yStr yInt)))) ?_
      refine wa_cons ?_
      refine wx_var rfl ?_
      refine ⟨_, rfl, ?_⟩
      refine wa_star (K := K) (pTup K) ?_
      refine wx_slT ?_
      refine wx_var rfl ?_
      refine ⟨_, rfl, ?_⟩
      refine wo_some ?_
      refine wx_un ?_
      refine wx_int ?_
      refine ⟨_, rfl, ?_⟩
      refine ru_neg ?_
      refine ⟨_, rfl, ?_⟩
      refine wo_no ?_
      rw [pcut_map]
      refine ⟨_, rfl, ?_⟩
      refine wa_nil ?_
      refine ⟨([s1.1] ++ (pcut theories (some (-(1 : Int))) none) : List ((List Str) × (List (List (Str × Int))))), _, by simp [vals], rfl, fun r6 => ?_⟩
      refine ⟨_, rfl, ?_⟩
      refine ⟨_, rfl, ?_⟩
      refine ⟨_, rfl, ?_⟩
      refine wa_nil ?_
      refine rc_call _ _ _ ⟨r6, rfl, rfl⟩ ⟨rfl, trivial⟩ (show List.Nodup ([] : List Nat) by decide) rfl (.inr fun _ z => by first | exact noerr_ne z | exact (nomatch z)) fun r7 _ => ?_
      refine ⟨_, rfl, ?_⟩
      refine wa_nil ?_
      refine rc_call _ _ _ ⟨kind, r7, rfl, rfl⟩ ⟨rfl, rfl, trivial⟩ (show List.Nodup ([] : List Nat) by decide) rfl (.inr fun _ z => by first | exact noerr_ne z | exact (nomatch z)) fun r8 _ => ?_
      refine ⟨_, rfl, ?_⟩
      refine wx_non ?_
      refine ⟨_, rfl, ?_⟩
      refine rx_notN (t := (yDct (κ := Str) yInt)) (x := r8) (by walk_at "nonn") ?_
      refine ⟨_, rfl, ?_⟩
      refine ⟨_, _, rfl, ?_, ?_⟩
      · refine ws_ctx (Γ' := [.val ((yKind (A 28)) kind), .val ((yTup K (yPr K (yTup K yStr) (yTup K (yTup K (yPr K yStr yInt))))) theories), .val ((yPr K (yTup K yStr) (yTup K (yTup K (yPr K yStr yInt)))) s1.1), .own false ((wLst K (yPr K (yTup K yStr) (yTup K (yTup K (yPr K yStr yInt))))) s1.2), .any, .any, .any]) rfl ?_
        refine ws_ret ?_
        refine wx_non ?_
        exact ⟨_, rfl, rfl, (by first | trivial | exact ⟨rfl, trivial⟩ | exact ⟨rfl, rfl, trivial⟩)⟩
      · refine ws_next ?_
        refine ws_ctx (Γ' := [.val ((yKind (A 28)) kind), .val ((yTup K (yPr K (yTup K yStr) (yTup K (yTup K (yPr K yStr yInt))))) theories), .val ((yPr K (yTup K yStr) (yTup K (yTup K (yPr K yStr yInt)))) s1.1), .own false ((wLst K (yPr K (yTup K yStr) (yTup K (yTup K (yPr K yStr yInt))))) s1.2), .any, .any, .any]) rfl ?_
        refine ws_frz 3 rfl ?_
        refine ws_ret ?_
        refine wx_cb ?_
        refine wa_cons ?_
        refine wx_var rfl ?_
        refine ⟨_, rfl, ?_⟩
        refine wa_nil ?_
        refine rc_tuple (pLst K) ?_
        exact ⟨_, rfl, rfl, (by first | trivial | exact ⟨rfl, trivial⟩ | exact ⟨rfl, rfl, trivial⟩)⟩
def pre_middle (K : PySem.W.Frag) (A : Nat → Addr) : List Ar → Cl → Prop := fun as d => ∃ (kind : Unit) (first : ((List Str) × (List (List (Str × Int))))) (second : ((List Str) × (List (List (Str × Int))))), as = [.val ((yKind (A 28)) kind), .val ((yPr K (yTup K yStr) (yTup K (yTup K (yPr K yStr yInt)))) first), .val ((yPr K (yTup K yStr) (yTup K (yTup K (yPr K yStr yInt)))) second)] ∧ d = ⟨((Option ((List Str) × (List (List (Str × Int)))))), f_middle kind first second, fun r => .val ((yOpt (yPr K (yTup K yStr) (yTup K (yTup K (yPr K yStr yInt))))) r), fun r => []⟩
theorem ok_middle (T : Txt K mg A D) : FnOk P w K mg base CX0 8 (A 16) (D 16) ["kind", "first", "second"] (spM A (pre_middle K A)) := by
  refine T.F_middle.ok sc_middle (fun vs H Q E h => ?_) (fun cdv A' outer s H vs Q E hr h => ?_)
  · exact spM_len h fun as d hp => by obtain ⟨kind, first, second, rfl, rfl⟩ := hp; rfl
  · have hu := hu_of hr
    have G_middles : FnR P w K mg base CX0 7 (A 17) (star 1 (spM A (pre_middles K A))) := ok_middles T
    refine ⟨_, (pss_cons (ps_set (i := 3) sc_middle.nd rfl (Or.inl rfl) (pe_callF G_middles (hr.mono (by decide)) T.F_middles.kp rfl T.g_middles pass0 (pa_cons (pv 0) (pa_cons (pv 1) (pa_cons (pv 2) pa_nil)))))
      (pss_one (ps_ret (pe_ifExp (pt_cmpR op_isN (pv 3) pe_non (nomark _)) pe_non (pe_ix (xK_tup (K := K) rfl) (pv 3) pe_int (fun _ _ => rfl)))))), ?_⟩
    refine fn_run0 h (fun as d hp => ?_) fun as d hp => ?_
    · obtain ⟨kind, first, second, rfl, rfl⟩ := hp; simp
    · obtain ⟨kind, first, second, rfl, rfl⟩ := hp
      refine ⟨_, (show f_middle kind first second = Res.noerr _ from rfl), ?_⟩
      refine ws_seq ?_
      refine ws_ctx (Γ' := [.val ((yKind (A 28)) kind), .val ((yPr K (yTup K yStr) (yTup K (yTup K (yPr K yStr yInt)))) first), .val ((yPr K (yTup K yStr) (yTup K (yTup K (yPr K yStr yInt)))) second), .any]) rfl ?_
      refine ws_setL (yOpt (yTup K (yPr K (yTup K yStr) (yTup K (yTup K (yPr K yStr yInt)))))) ?_
      refine wx_callF ?_
      refine wa_cons ?_
      refine wx_var rfl ?_
      refine ⟨_, rfl, ?_⟩
      refine wa_cons ?_
      refine wx_var rfl ?_
      refine ⟨_, rfl, ?_⟩
      refine wa_cons ?_
      refine wx_var rfl ?_
      refine ⟨_, rfl, ?_⟩
      refine wa_nil ?_
      refine rc_star (K := K) (ps := [(yPr K (yTup K yStr) (yTup K (yTup K (yPr K yStr yInt)))) first, (yPr K (yTup K yStr) (yTup K (yTup K (yPr K yStr yInt)))) second]) [.val ((yKind (A 28)) kind)] (show 2 ≤ 1000 by decide) ?_
      obtain ⟨L9, hL9⟩ : ∃ L : List ((List Str) × (List (List (Str × Int)))), L = [first, second] := ⟨_, rfl⟩
      rw [← hL9]
      refine rc_call _ _ _ ⟨kind, L9, rfl, rfl⟩ ⟨rfl, hL9 ▸ mTup_2 (K := K) (t := (yPr K (yTup K yStr) (yTup K (yTup K (yPr K yStr yInt))))), trivial⟩ (show List.Nodup ([] : List Nat) by decide) rfl (.inr fun _ z => noerr_ne z) fun r1 _ => ?_
      refine ⟨r1, _, rfl, show 3 < 4 by decide, rfl, fun found => ?_⟩
      refine ws_ctx (Γ' := [.val ((yKind (A 28)) kind), .val ((yPr K (yTup K yStr) (yTup K (yTup K (yPr K yStr yInt)))) first), .val ((yPr K (yTup K yStr) (yTup K (yTup K (yPr K yStr yInt)))) second), .val ((yOpt (yTup K (yPr K (yTup K yStr) (yTup K (yTup K (yPr K yStr yInt)))))) found)]) rfl ?_
      refine ws_ret ?_
      refine wx_ifM (μ := Unit) (yOpt (yPr K (yTup K yStr) (yTup K (yTup K (yPr K yStr yInt))))) ?_
      refine wt_b ?_
      refine wx_op ?_
      refine wx_var rfl ?_
      refine ⟨_, rfl, ?_⟩
      refine wx_non ?_
      refine ⟨_, rfl, ?_⟩
      refine rx_isN (t := (yTup K (yPr K (yTup K yStr) (yTup K (yTup K (yPr K yStr yInt)))))) (x := found) (by walk_at "nonn") ?_
      refine ⟨_, rfl, ?_⟩
      refine ⟨(fun _ : Unit => [.val ((yKind (A 28)) kind), .val ((yPr K (yTup K yStr) (yTup K (yTup K (yPr K yStr yInt)))) first), .val ((yPr K (yTup K yStr) (yTup K (yTup K (yPr K yStr yInt)))) second), .val ((yOpt (yTup K (yPr K (yTup K yStr) (yTup K (yTup K (yPr K yStr yInt)))))) found)]), _, _, _, rfl, fun _ => ?_, fun _ => ?_, fun r4 => ?_⟩
      · refine wx_non ?_
        exact ⟨_, _, rfl, rfl, by walk_at "subc"⟩
      · refine wx_op ?_
        refine wx_unw (yTup K (yPr K (yTup K yStr) (yTup K (yTup K (yPr K yStr yInt))))) ?_
        refine wx_var rfl ?_
        refine ⟨found, _, rfl, rfl, fun r2 => ?_⟩
        refine ⟨_, rfl, ?_⟩
        refine wx_int ?_
        refine ⟨_, rfl, ?_⟩
        refine rx_ixTp (t := (yPr K (yTup K yStr) (yTup K (yTup K (yPr K yStr yInt))))) (xs := r2) rfl fun r3 => ?_
        exact ⟨_, _, rfl, rfl, by walk_at "subc"⟩
      exact ⟨_, rfl, rfl, (by first | trivial | exact ⟨rfl, trivial⟩ | exact ⟨rfl, rfl, trivial⟩)⟩
def pre__law_source (K : PySem.W.Frag) (A : Nat → Addr) : List Ar → Cl → Prop := fun as d => ∃ (_law_script : (List Int)) (_law_k : Int), as = [.val ((yLst K yInt) _law_script), .val (yInt _law_k)] ∧ d = ⟨((List Int)), f__law_source _law_script _law_k, fun r => .own ((wLst K yInt) r), fun r => []⟩
theorem ok__law_source (T : Txt K mg A D) : FnOk P w K mg base CX0 1 (A 30) (D 30) ["_law_script", "_law_k"] (spM A (pre__law_source K A)) := by
  refine T.F__law_source.ok sc__law_source (fun vs H Q E h => ?_) (fun cdv A' outer s H vs Q E hr h => ?_)
  · exact spM_len h fun as d hp => by obtain ⟨_law_script, _law_k, rfl, rfl⟩ := hp; rfl
  · have hu := hu_of hr
    refine ⟨_, (pss_cons (ps_set (i := 2) sc__law_source.nd rfl (Or.inl rfl) pe_int)
      (pss_cons (ps_if (pt_cmpR op_lt (pv 1) (pe_callB (id := "len") (cK_len (K := K) rfl) (by rfl) T.z_len (by decide +kernel) (pa_cons (pv 0) pa_nil)) (nomark _))
        (pss_one (ps_set (i := 2) sc__law_source.nd rfl (Or.inl rfl) (pe_callTy (T := "int") call_int1 (by rfl) T.z_int (by decide +kernel) (pa_cons (pe_ix (xK_list (K := K) rfl) (pv 0) (pv 1) (fun _ _ => rfl)) pa_nil))))
        pss_nil)
      (pss_one (ps_ret (pe_lst (pa_cons (pv 2) (pa_cons (pe_op op_add (pe_op op_mul pe_int (pv 1)) (pe_callB (id := "len") (cK_len (K := K) rfl) (by rfl) T.z_len (by decide +kernel) (pa_cons (pv 0) pa_nil))) pa_nil))))))), ?_⟩
    refine fn_run0 h (fun as d hp => ?_) fun as d hp => ?_
    · obtain ⟨_law_script, _law_k, rfl, rfl⟩ := hp; simp
    · obtain ⟨_law_script, _law_k, rfl, rfl⟩ := hp
      refine ⟨_, (show f__law_source _law_script _law_k = Res.noerr _ from rfl), ?_⟩
      refine ws_seq ?_
      refine ws_ctx (Γ' := [.val ((yLst K yInt) _law_script), .val (yInt _law_k), .any]) rfl ?_
      refine ws_setL yInt ?_
      refine wx_int ?_
      refine ⟨(0 : Int), _, rfl, show 2 < 3 by decide, rfl, fun _law_number => ?_⟩
      refine ws_seq ?_
      refine ws_ctx (Γ' := [.val ((yLst K yInt) _law_script), .val (yInt _law_k), .val (yInt _law_number)]) rfl ?_
      refine ws_blk (fun s1 : (Int) => [.val ((yLst K yInt) _law_script), .val (yInt _law_k), .val (yInt s1)]) rfl ?_ ?_
      · refine ws_if ?_
        refine wt_b ?_
        refine wx_op ?_
        refine wx_var rfl ?_
        refine ⟨_, rfl, ?_⟩
        refine wx_cb ?_
        refine wa_cons ?_
        refine wx_var rfl ?_
        refine ⟨_, rfl, ?_⟩
        refine wa_nil ?_
        refine rc_lenSq (pLst K) ?_
        rw [List.length_map]
        refine ⟨_, rfl, ?_⟩
        refine rx_cmp rfl ?_
        refine ⟨_, rfl, ?_⟩
        refine ⟨_, _, rfl, ?_, ?_⟩
        · refine ws_ctx (Γ' := [.val ((yLst K yInt) _law_script), .val (yInt _law_k), .val (yInt _law_number)]) rfl ?_
          refine ws_setL yInt ?_
          refine wx_cb ?_
          refine wa_cons ?_
          refine wx_op ?_
          refine wx_var rfl ?_
          refine ⟨_, rfl, ?_⟩
          refine wx_var rfl ?_
          refine ⟨_, rfl, ?_⟩
          refine rx_ixLp (t := yInt) (xs := _law_script) rfl fun r1 => ?_
          refine ⟨_, rfl, ?_⟩
          refine wa_nil ?_
          refine rc_int1 ?_
          refine ⟨r1, _, rfl, show 2 < 3 by decide, rfl, fun _law_number => ?_⟩
          exact ⟨_, rfl, by walk_at "subc"⟩
        · refine ws_next ?_
          exact ⟨_, rfl, by walk_at "subc"⟩
      intro s1
      refine ws_ctx (Γ' := [.val ((yLst K yInt) _law_script), .val (yInt _law_k), .val (yInt s1)]) rfl ?_
      refine ws_ret ?_
      refine wx_lst (K := K) ?_
      refine wa_cons ?_
      refine wx_var rfl ?_
      refine ⟨_, rfl, ?_⟩
      refine wa_cons ?_
      refine wx_op ?_
      refine wx_op ?_
      refine wx_int ?_
      refine ⟨_, rfl, ?_⟩
      refine wx_var rfl ?_
      refine ⟨_, rfl, ?_⟩
      refine rx_it (f := fun i j => i * j) (.inl (by decide)) rfl ?_
      refine ⟨_, rfl, ?_⟩
      refine wx_cb ?_
      refine wa_cons ?_
      refine wx_var rfl ?_
      refine ⟨_, rfl, ?_⟩
      refine wa_nil ?_
      refine rc_lenSq (pLst K) ?_
      rw [List.length_map]
      refine ⟨_, rfl, ?_⟩
      refine rx_ari rfl ?_
      refine ⟨_, rfl, ?_⟩
      refine wa_nil ?_
      refine ⟨[yInt s1, yInt (((100 : Int) * _law_k) + (_law_script.length : Int))], rfl, show 2 ≤ 1000 by decide, ?_⟩
      exact ⟨_, rfl, rfl, (by first | trivial | exact ⟨rfl, trivial⟩ | exact ⟨rfl, rfl, trivial⟩)⟩
def pre__law_from (K : PySem.W.Frag) (A : Nat → Addr) : List Ar → Cl → Prop := fun as d => ∃ (_law_script : (List Int)) (_law_k : Int), as = [.val ((yLst K yInt) _law_script), .val (yInt _law_k)] ∧ d = ⟨((List Int)), f__law_from _law_script _law_k, fun r => .own ((wLst K yInt) r), fun r => []⟩
theorem ok__law_from (T : Txt K mg A D) : FnOk P w K mg base CX0 2 (A 31) (D 31) ["_law_script", "_law_k"] (spM A (pre__law_from K A)) := by
  refine T.F__law_from.ok sc__law_from (fun vs H Q E h => ?_) (fun cdv A' outer s H vs Q E hr h => ?_)
  · exact spM_len h fun as d hp => by obtain ⟨_law_script, _law_k, rfl, rfl⟩ := hp; rfl
  · have hu := hu_of hr
    have G__law_source : FnOk P w K mg base CX0 1 (A 30) (D 30) ["_law_script", "_law_k"] (spM A (pre__law_source K A)) := ok__law_source T
    refine ⟨_, (pss_cons (ps_set (i := 2) sc__law_from.nd rfl (Or.inl rfl) (pe_call G__law_source (hr.mono (by decide)) rfl T.g__law_source T.F__law_source.kp T.b__law_source .nil pass0 (pa_cons (pv 0) (pa_cons (pv 1) pa_nil))))
      (pss_cons (ps_if (pt_chain op_ge op_gt (pv 1) (pe_callB (id := "len") (cK_len (K := K) rfl) (by rfl) T.z_len (by decide +kernel) (pa_cons (pv 0) pa_nil)) pe_int)
        (pss_one (ps_asg (pe_op op_mod (pe_callTy (T := "int") call_int1 (by rfl) T.z_int (by decide +kernel) (pa_cons (pe_ix (xK_list (K := K) rfl) (pv 0) (pe_op op_mod (pe_callTy (T := "int") call_int1 (by rfl) T.z_int (by decide +kernel) (pa_cons (pv 1) pa_nil)) (pe_callB (id := "len") (cK_len (K := K) rfl) (by rfl) T.z_len (by decide +kernel) (pa_cons (pv 0) pa_nil))) (fun _ _ => rfl)) pa_nil)) pe_int) (pg_sub (pv 2) pe_int set_list)))
        pss_nil)
      (pss_one (ps_ret (pv 2))))), ?_⟩
    refine fn_run0 h (fun as d hp => ?_) fun as d hp => ?_
    · obtain ⟨_law_script, _law_k, rfl, rfl⟩ := hp; simp
    · obtain ⟨_law_script, _law_k, rfl, rfl⟩ := hp
      refine ⟨_, (show f__law_from _law_script _law_k = Res.noerr _ from rfl), ?_⟩
      refine ws_seq ?_
      refine ws_ctx (Γ' := [.val ((yLst K yInt) _law_script), .val (yInt _law_k), .any]) rfl ?_
      refine ws_setO (wLst K yInt) ?_
      refine wx_call ?_
      refine wa_cons ?_
      refine wx_var rfl ?_
      refine ⟨_, rfl, ?_⟩
      refine wa_cons ?_
      refine wx_var rfl ?_
      refine ⟨_, rfl, ?_⟩
      refine wa_nil ?_
      refine rc_call _ _ _ ⟨_law_script, _law_k, rfl, rfl⟩ ⟨rfl, rfl, trivial⟩ (show List.Nodup ([] : List Nat) by decide) rfl (.inr fun _ z => by first | exact noerr_ne z | exact (nomatch z)) fun r1 _ => ?_
      refine ⟨r1, _, rfl, show 2 < 3 by decide, rfl, fun _law_source_here => ?_⟩
      refine ws_seq ?_
      refine ws_ctx (Γ' := [.val ((yLst K yInt) _law_script), .val (yInt _law_k), .own false ((wLst K yInt) _law_source_here)]) rfl ?_
      refine ws_blk (fun s1 : ((List Int)) => [.val ((yLst K yInt) _law_script), .val (yInt _law_k), .own false ((wLst K yInt) s1)]) rfl ?_ ?_
      · refine ws_if ?_
        refine wt_test ?_
        refine wx_chain ?_
        refine wx_var rfl ?_
        refine ⟨_, rfl, ?_⟩
        refine wx_cb ?_
        refine wa_cons ?_
        refine wx_var rfl ?_
        refine ⟨_, rfl, ?_⟩
        refine wa_nil ?_
        refine rc_lenSq (pLst K) ?_
        rw [List.length_map]
        refine ⟨_, rfl, ?_⟩
        refine rx_cmp rfl ?_
        refine ⟨_, (decide ((0 : Int) < (_law_script.length : Int))), rfl, fun _ => ?_, ?_⟩
        · refine wx_int ?_
          refine ⟨_, rfl, ?_⟩
          refine rx_cmp rfl ?_
          exact ⟨rfl, rfl, rfl⟩
        refine ⟨_, rfl, ?_⟩
        refine ⟨_, _, rfl, ?_, ?_⟩
        · refine ws_ctx (Γ' := [.val ((yLst K yInt) _law_script), .val (yInt _law_k), .own false ((wLst K yInt) _law_source_here)]) rfl ?_
          refine ws_lset (K := K) yInt ?_
          refine wx_op ?_
          refine wx_cb ?_
          refine wa_cons ?_
          refine wx_op ?_
          refine wx_var rfl ?_
          refine ⟨_, rfl, ?_⟩
          refine wx_op ?_
          refine wx_cb ?_
          refine wa_cons ?_
          refine wx_var rfl ?_
          refine ⟨_, rfl, ?_⟩
          refine wa_nil ?_
          refine rc_int1 ?_
          refine ⟨_, rfl, ?_⟩
          refine wx_cb ?_
          refine wa_cons ?_
          refine wx_var rfl ?_
          refine ⟨_, rfl, ?_⟩
          refine wa_nil ?_
          refine rc_lenSq (pLst K) ?_
          rw [List.length_map]
          refine ⟨_, rfl, ?_⟩
          refine rx_mod rfl rfl fun r2 => ?_
          refine ⟨_, rfl, ?_⟩
          refine rx_ixLp (t := yInt) (xs := _law_script) rfl fun r3 => ?_
          refine ⟨_, rfl, ?_⟩
          refine wa_nil ?_
          refine rc_int1 ?_
          refine ⟨_, rfl, ?_⟩
          refine wx_int ?_
          refine ⟨_, rfl, ?_⟩
          refine rx_it (f := fun i j => i % j) (by decide) rfl ?_
          refine ⟨(r3 % (999999999999999989 : Int)), rfl, ⟨_, _, rfl⟩, ?_⟩
          refine wx_int ?_
          refine ⟨_, _law_source_here, (0 : Int), _, rfl, rfl, rfl, fun z1 => ?_⟩
          exact ⟨_, rfl, by walk_at "subc"⟩
        · refine ws_next ?_
          exact ⟨_, rfl, by walk_at "subc"⟩
      intro s1
      refine ws_ctx (Γ' := [.val ((yLst K yInt) _law_script), .val (yInt _law_k), .own false ((wLst K yInt) s1)]) rfl ?_
      refine ws_ret ?_
      refine wx_take rfl ?_
      exact ⟨_, rfl, rfl, (by first | trivial | exact ⟨rfl, trivial⟩ | exact ⟨rfl, rfl, trivial⟩)⟩
def pre__law_draw (K : PySem.W.Frag) (A : Nat → Addr) : List Ar → Cl → Prop := fun as d => ∃ (_law_source_here : (List Int)) (_law_limit : Int), as = [.io ((wLst K yInt) _law_source_here), .val (yInt _law_limit)] ∧ d = ⟨(Int × (List Int)), f__law_draw _law_source_here _law_limit, fun r => .val (yInt r.1), fun r => [(wLst K yInt) r.2]⟩
theorem ok__law_draw (T : Txt K mg A D) : FnOk P w K mg base CX0 1 (A 32) (D 32) ["_law_source_here", "_law_limit"] (spM A (pre__law_draw K A)) := by
  refine T.F__law_draw.ok sc__law_draw (fun vs H Q E h => ?_) (fun cdv A' outer s H vs Q E hr h => ?_)
  · exact spM_len h fun as d hp => by obtain ⟨_law_source_here, _law_limit, rfl, rfl⟩ := hp; rfl
  · have hu := hu_of hr
    refine ⟨_, (pss_cons (ps_set (i := 2) sc__law_draw.nd rfl (Or.inl rfl) (pe_ix (xK_list (K := K) rfl) (pv 0) pe_int (fun _ _ => rfl)))
      (pss_cons (ps_if (pt_cmpR op_ge (pv 2) (pe_op op_pow pe_int pe_int) (nomark _))
        (pss_cons (ps_asg (pe_op op_fdiv (pv 2) (pv 1)) (pg_sub (pv 0) pe_int set_list))
        (pss_one (ps_ret (pe_op op_mod (pe_callTy (T := "int") call_int1 (by rfl) T.z_int (by decide +kernel) (pa_cons (pv 2) pa_nil)) (pv 1)))))
        pss_nil)
      (pss_cons (ps_asg (pe_op op_add (pe_ix (xK_list (K := K) rfl) (pv 0) pe_int (fun _ _ => rfl)) pe_int) (pg_sub (pv 0) pe_int set_list))
      (pss_cons (ps_set (i := 3) sc__law_draw.nd rfl (Or.inl rfl) (pe_op op_mod (pe_callTy (T := "int") call_int1 (by rfl) T.z_int (by decide +kernel) (pa_cons (pe_op op_add (pe_op op_add (pe_op op_mul (pv 2) pe_int) (pe_op op_mul (pe_ix (xK_list (K := K) rfl) (pv 0) pe_int (fun _ _ => rfl)) pe_int)) pe_int) pa_nil)) pe_int))
      (pss_cons (ps_set (i := 3) sc__law_draw.nd rfl (Or.inl rfl) (pe_op op_mod (pe_callTy (T := "int") call_int1 (by rfl) T.z_int (by decide +kernel) (pa_cons (pe_op op_add (pe_op op_add (pe_op op_mul (pv 3) (pv 3)) (pv 2)) (pe_op op_mul (pe_ix (xK_list (K := K) rfl) (pv 0) pe_int (fun _ _ => rfl)) pe_int)) pa_nil)) pe_int))
      (pss_cons (ps_set (i := 3) sc__law_draw.nd rfl (Or.inl rfl) (pe_op op_mod (pe_callTy (T := "int") call_int1 (by rfl) T.z_int (by decide +kernel) (pa_cons (pe_op op_add (pe_op op_add (pe_op op_mul (pv 3) (pv 3)) (pe_op op_fdiv (pv 3) pe_int)) pe_int) pa_nil)) pe_int))
      (pss_one (ps_ret (pe_op op_mod (pe_op op_fdiv (pe_callTy (T := "int") call_int1 (by rfl) T.z_int (by decide +kernel) (pa_cons (pv 3) pa_nil)) pe_int) (pv 1)))))))))), ?_⟩
    refine fn_run0 h (fun as d hp => ?_) fun as d hp => ?_
    · obtain ⟨_law_source_here, _law_limit, rfl, rfl⟩ := hp; simp
    · obtain ⟨_law_source_here, _law_limit, rfl, rfl⟩ := hp
      refine ⟨_, (show f__law_draw _law_source_here _law_limit = Res.noerr _ from rfl), ?_⟩
      refine ws_seq ?_
      refine ws_ctx (Γ' := [.own true ((wLst K yInt) _law_source_here), .val (yInt _law_limit), .any, .any]) rfl ?_
      refine ws_setL yInt ?_
      refine wx_peek ?_
      refine wx_op ?_
      refine wx_var rfl ?_
      refine ⟨_, rfl, ?_⟩
      refine wx_int ?_
      refine ⟨_, rfl, ?_⟩
      refine rx_ixLp (t := yInt) (xs := _law_source_here) rfl fun r1 => ?_
      refine ⟨_, rfl, imm_int, ?_⟩
      refine ⟨r1, _, rfl, show 2 < 4 by decide, rfl, fun _law_number => ?_⟩
      refine ws_seq ?_
      refine ws_ctx (Γ' := [.own true ((wLst K yInt) _law_source_here), .val (yInt _law_limit), .val (yInt _law_number), .any]) rfl ?_
      refine ws_if ?_
      refine wt_b ?_
      refine wx_op ?_
      refine wx_var rfl ?_
      refine ⟨_, rfl, ?_⟩
      refine wx_op ?_
      refine wx_int ?_
      refine ⟨_, rfl, ?_⟩
      refine wx_int ?_
      refine ⟨_, rfl, ?_⟩
      refine rx_it (f := fun i j => i ^ j.toNat) ⟨by decide, by decide, by decide⟩ rfl ?_
      refine ⟨_, rfl, ?_⟩
      refine rx_cmp rfl ?_
      refine ⟨_, rfl, ?_⟩
      refine ⟨_, _, rfl, ?_, ?_⟩
      · refine ws_seq ?_
        refine ws_ctx (Γ' := [.own true ((wLst K yInt) _law_source_here), .val (yInt _law_limit), .val (yInt _law_number), .any]) rfl ?_
        refine ws_lset (K := K) yInt ?_
        refine wx_op ?_
        refine wx_var rfl ?_
        refine ⟨_, rfl, ?_⟩
        refine wx_var rfl ?_
        refine ⟨_, rfl, ?_⟩
        refine rx_div rfl rfl fun r2 => ?_
        refine ⟨r2, rfl, ⟨_, _, rfl⟩, ?_⟩
        refine wx_int ?_
        refine ⟨_, _law_source_here, (0 : Int), _, rfl, rfl, rfl, fun z1 => ?_⟩
        refine ws_ctx (Γ' := [.own true ((wLst K yInt) z1), .val (yInt _law_limit), .val (yInt _law_number), .any]) rfl ?_
        refine ws_ret ?_
        refine wx_op ?_
        refine wx_cb ?_
        refine wa_cons ?_
        refine wx_var rfl ?_
        refine ⟨_, rfl, ?_⟩
        refine wa_nil ?_
        refine rc_int1 ?_
        refine ⟨_, rfl, ?_⟩
        refine wx_var rfl ?_
        refine ⟨_, rfl, ?_⟩
        refine rx_mod rfl rfl fun r3 => ?_
        exact ⟨_, rfl, rfl, (by first | trivial | exact ⟨rfl, trivial⟩ | exact ⟨rfl, rfl, trivial⟩)⟩
      · refine ws_next ?_
        refine ws_seq ?_
        refine ws_ctx (Γ' := [.own true ((wLst K yInt) _law_source_here), .val (yInt _law_limit), .val (yInt _law_number), .any]) rfl ?_
        refine ws_lset (K := K) yInt ?_
        refine wx_op ?_
        refine wx_peek ?_
        refine wx_op ?_
        refine wx_var rfl ?_
        refine ⟨_, rfl, ?_⟩
        refine wx_int ?_
        refine ⟨_, rfl, ?_⟩
        refine rx_ixLp (t := yInt) (xs := _law_source_here) rfl fun r4 => ?_
        refine ⟨_, rfl, imm_int, ?_⟩
        refine ⟨_, rfl, ?_⟩
        refine wx_int ?_
        refine ⟨_, rfl, ?_⟩
        refine rx_ari rfl ?_
        refine ⟨(r4 + (1 : Int)), rfl, ⟨_, _, rfl⟩, ?_⟩
        refine wx_int ?_
        refine ⟨_, _law_source_here, (1 : Int), _, rfl, rfl, rfl, fun z2 => ?_⟩
        refine ws_seq ?_
        refine ws_ctx (Γ' := [.own true ((wLst K yInt) z2), .val (yInt _law_limit), .val (yInt _law_number), .any]) rfl ?_
        refine ws_setL yInt ?_
        refine wx_op ?_
        refine wx_cb ?_
        refine wa_cons ?_
        refine wx_op ?_
        refine wx_op ?_
        refine wx_op ?_
        refine wx_var rfl ?_
        refine ⟨_, rfl, ?_⟩
        refine wx_int ?_
        refine ⟨_, rfl, ?_⟩
        refine rx_it (f := fun i j => i * j) (.inr (by decide)) rfl ?_
        refine ⟨_, rfl, ?_⟩
        refine wx_op ?_
        refine wx_peek ?_
        refine wx_op ?_
        refine wx_var rfl ?_
        refine ⟨_, rfl, ?_⟩
        refine wx_int ?_
        refine ⟨_, rfl, ?_⟩
        refine rx_ixLp (t := yInt) (xs := z2) rfl fun r5 => ?_
        refine ⟨_, rfl, imm_int, ?_⟩
        refine ⟨_, rfl, ?_⟩
        refine wx_int ?_
        refine ⟨_, rfl, ?_⟩
        refine rx_it (f := fun i j => i * j) (.inr (by decide)) rfl ?_
        refine ⟨_, rfl, ?_⟩
        refine rx_ari rfl ?_
        refine ⟨_, rfl, ?_⟩
        refine wx_int ?_
        refine ⟨_, rfl, ?_⟩
        refine rx_ari rfl ?_
        refine ⟨_, rfl, ?_⟩
        refine wa_nil ?_
        refine rc_int1 ?_
        refine ⟨_, rfl, ?_⟩
        refine wx_int ?_
        refine ⟨_, rfl, ?_⟩
        refine rx_it (f := fun i j => i % j) (by decide) rfl ?_
        refine ⟨((((_law_number * (48271 : Int)) + (r5 * (69621 : Int))) + (7 : Int)) % (2147483647 : Int)), _, rfl, show 3 < 4 by decide, rfl, fun _law_mixed => ?_⟩
        refine ws_seq ?_
        refine ws_ctx (Γ' := [.own true ((wLst K yInt) z2), .val (yInt _law_limit), .val (yInt _law_number), .val (yInt _law_mixed)]) rfl ?_
        refine ws_setL yInt ?_
        refine wx_op ?_
        refine wx_cb ?_
        refine wa_cons ?_
        refine wx_op ?_
        refine wx_op ?_
        refine wx_op ?_
        refine wx_var rfl ?_
        refine ⟨_, rfl, ?_⟩
        refine wx_var rfl ?_
        refine ⟨_, rfl, ?_⟩
        refine rx_mul rfl rfl fun r6 => ?_
        refine ⟨_, rfl, ?_⟩
        refine wx_var rfl ?_
        refine ⟨_, rfl, ?_⟩
        refine rx_ari rfl ?_
        refine ⟨_, rfl, ?_⟩
        refine wx_op ?_
        refine wx_peek ?_
        refine wx_op ?_
        refine wx_var rfl ?_
        refine ⟨_, rfl, ?_⟩
        refine wx_int ?_
        refine ⟨_, rfl, ?_⟩
        refine rx_ixLp (t := yInt) (xs := z2) rfl fun r7 => ?_
        refine ⟨_, rfl, imm_int, ?_⟩
        refine ⟨_, rfl, ?_⟩
        refine wx_int ?_
        refine ⟨_, rfl, ?_⟩
        refine rx_it (f := fun i j => i * j) (.inr (by decide)) rfl ?_
        refine ⟨_, rfl, ?_⟩
        refine rx_ari rfl ?_
        refine ⟨_, rfl, ?_⟩
        refine wa_nil ?_
        refine rc_int1 ?_
        refine ⟨_, rfl, ?_⟩
        refine wx_int ?_
        refine ⟨_, rfl, ?_⟩
        refine rx_it (f := fun i j => i % j) (by decide) rfl ?_
        refine ⟨(((r6 + _law_number) + (r7 * (40692 : Int))) % (2147483629 : Int)), _, rfl, show 3 < 4 by decide, rfl, fun _law_mixed => ?_⟩
        refine ws_seq ?_
        refine ws_ctx (Γ' := [.own true ((wLst K yInt) z2), .val (yInt _law_limit), .val (yInt _law_number), .val (yInt _law_mixed)]) rfl ?_
        refine ws_setL yInt ?_
        refine wx_op ?_
        refine wx_cb ?_
        refine wa_cons ?_
        refine wx_op ?_
        refine wx_op ?_
        refine wx_op ?_
        refine wx_var rfl ?_
        refine ⟨_, rfl, ?_⟩
        refine wx_var rfl ?_
        refine ⟨_, rfl, ?_⟩
        refine rx_mul rfl rfl fun r8 => ?_
        refine ⟨_, rfl, ?_⟩
        refine wx_op ?_
        refine wx_var rfl ?_
        refine ⟨_, rfl, ?_⟩
        refine wx_int ?_
        refine ⟨_, rfl, ?_⟩
        refine rx_it (f := fun i j => i / j) ⟨by decide, by decide⟩ rfl ?_
        refine ⟨_, rfl, ?_⟩
        refine rx_ari rfl ?_
        refine ⟨_, rfl, ?_⟩
        refine wx_int ?_
        refine ⟨_, rfl, ?_⟩
        refine rx_ari rfl ?_
        refine ⟨_, rfl, ?_⟩
        refine wa_nil ?_
        refine rc_int1 ?_
        refine ⟨_, rfl, ?_⟩
        refine wx_int ?_
        refine ⟨_, rfl, ?_⟩
        refine rx_it (f := fun i j => i % j) (by decide) rfl ?_
        refine ⟨(((r8 + (_law_mixed / (4096 : Int))) + (12345 : Int)) % (2147483587 : Int)), _, rfl, show 3 < 4 by decide, rfl, fun _law_mixed => ?_⟩
        refine ws_ctx (Γ' := [.own true ((wLst K yInt) z2), .val (yInt _law_limit), .val (yInt _law_number), .val (yInt _law_mixed)]) rfl ?_
        refine ws_ret ?_
        refine wx_op ?_
        refine wx_op ?_
        refine wx_cb ?_
        refine wa_cons ?_
        refine wx_var rfl ?_
        refine ⟨_, rfl, ?_⟩
        refine wa_nil ?_
        refine rc_int1 ?_
        refine ⟨_, rfl, ?_⟩
        refine wx_int ?_
        refine ⟨_, rfl, ?_⟩
        refine rx_it (f := fun i j => i / j) ⟨by decide, by decide⟩ rfl ?_
        refine ⟨_, rfl, ?_⟩
        refine wx_var rfl ?_
        refine ⟨_, rfl, ?_⟩
        refine rx_mod rfl rfl fun r9 => ?_
        exact ⟨_, rfl, rfl, (by first | trivial | exact ⟨rfl, trivial⟩ | exact ⟨rfl, rfl, trivial⟩)⟩
def pre__law_some (K : PySem.W.Frag) (A : Nat → Addr) : List Ar → Cl → Prop := fun as d => ∃ (_law_source_here : (List Int)) (_law_names_here : (List Str)) (_law_most : Int), as = [.io ((wLst K yInt) _law_source_here), .val ((yLst K yStr) _law_names_here), .val (yInt _law_most)] ∧ d = ⟨((List Str) × (List Int)), f__law_some _law_source_here _law_names_here _law_most, fun r => .own ((wLst K yStr) r.1), fun r => [(wLst K yInt) r.2]⟩
theorem ok__law_some (T : Txt K mg A D) : FnOk P w K mg base CX0 2 (A 33) (D 33) ["_law_source_here", "_law_names_here", "_law_most"] (spM A (pre__law_some K A)) := by
  refine T.F__law_some.ok sc__law_some (fun vs H Q E h => ?_) (fun cdv A' outer s H vs Q E hr h => ?_)
  · exact spM_len h fun as d hp => by obtain ⟨_law_source_here, _law_names_here, _law_most, rfl, rfl⟩ := hp; rfl
  · have hu := hu_of hr
    have G__law_draw : FnOk P w K mg base CX0 1 (A 32) (D 32) ["_law_source_here", "_law_limit"] (spM A (pre__law_draw K A)) := ok__law_draw T
    refine ⟨_, (pss_cons (ps_set (i := 3) sc__law_some.nd rfl (Or.inl rfl) (pe_lst pa_nil))
      (pss_cons (ps_for PassesOwn.never rfl (iK_list (K := K) rfl (pv 1)) (pg_name (i := 4) sc__law_some.nd rfl (Or.inl rfl))
        (pss_one (ps_if (PW.pt (pw_and (pt_cmpR op_lt (pe_callB (id := "len") (cK_len (K := K) rfl) (by rfl) T.z_len (by decide +kernel) (pa_cons (pv 3) pa_nil)) (pv 2) (nomark _)) (pw_and1 (pt_cmpR op_gt (pe_call G__law_draw (hr.mono (by decide)) rfl T.g__law_draw T.F__law_draw.kp T.b__law_draw .nil pass0 (pa_cons (pv 0) (pa_cons pe_int pa_nil))) pe_int (nomark _)))))
          (pss_one (ps_expr (pe_bm PySem.F.plainAttrs_list PySem.F.slot_list_append PySem.F.type_list_append mt_append (pv 3) (pa_cons (pv 4) pa_nil))))
          pss_nil)))
      (pss_one (ps_ret (pv 3))))), ?_⟩
    refine fn_run0 h (fun as d hp => ?_) fun as d hp => ?_
    · obtain ⟨_law_source_here, _law_names_here, _law_most, rfl, rfl⟩ := hp; simp
    · obtain ⟨_law_source_here, _law_names_here, _law_most, rfl, rfl⟩ := hp
      refine ⟨_, (show f__law_some _law_source_here _law_names_here _law_most = Res.noerr _ from rfl), ?_⟩
      refine ws_seq ?_
      refine ws_ctx (Γ' := [.own true ((wLst K yInt) _law_source_here), .val ((yLst K yStr) _law_names_here), .val (yInt _law_most), .any, .any]) rfl ?_
      refine ws_setO (wLst K yStr) ?_
      refine wx_lst (K := K) ?_
      refine wa_nil ?_
      refine ⟨[], rfl, show 0 ≤ 1000 by decide, ?_⟩
      refine ⟨([] : List Str), _, rfl, show 3 < 5 by decide, rfl, fun _law_found => ?_⟩
      refine ws_seq ?_
      refine ws_ctx (Γ' := [.own true ((wLst K yInt) _law_source_here), .val ((yLst K yStr) _law_names_here), .val (yInt _law_most), .own false ((wLst K yStr) _law_found), .any]) rfl ?_
      refine ws_for (μ := ((List Int) × (List Str))) yStr ?_
      refine wi_list ?_
      refine wx_var rfl ?_
      refine ⟨_, rfl, ?_⟩
      refine ⟨_, (fun s1 : ((List Int) × (List Str)) => [.own true ((wLst K yInt) s1.1), .val ((yLst K yStr) _law_names_here), .val (yInt _law_most), .own false ((wLst K yStr) s1.2), .any]), _law_names_here, _, _, rfl, rfl, by walk_at "subc", fun s1 q1 => ?_, fun s1 => ?_⟩
      · refine wg_name (show 4 < 5 by decide) ?_
        refine ws_ctx (Γ' := [.own true ((wLst K yInt) s1.1), .val ((yLst K yStr) _law_names_here), .val (yInt _law_most), .own false ((wLst K yStr) s1.2), .val (yStr q1)]) rfl ?_
        refine ws_if ?_
        refine wt_andM (μ := ((List Int))) ?_
        refine wt_b ?_
        refine wx_op ?_
        refine wx_peek ?_
        refine wx_cb ?_
        refine wa_cons ?_
        refine wx_var rfl ?_
        refine ⟨_, rfl, ?_⟩
        refine wa_nil ?_
        refine rc_lenSq (pLst K) ?_
        rw [List.length_map]
        refine ⟨_, rfl, imm_int, ?_⟩
        refine ⟨_, rfl, ?_⟩
        refine wx_var rfl ?_
        refine ⟨_, rfl, ?_⟩
        refine rx_cmp rfl ?_
        refine ⟨_, rfl, ?_⟩
        refine ⟨(fun s2 : ((List Int)) => [.own true ((wLst K yInt) s2), .val ((yLst K yStr) _law_names_here), .val (yInt _law_most), .own false ((wLst K yStr) s1.2), .val (yStr q1)]), _, (s1.1), _, rfl, by walk_at "subc", fun _ => ?_, fun r2 => ?_⟩
        · refine wt_b ?_
          refine wx_op ?_
          refine wx_call ?_
          refine wa_io rfl ?_
          refine wa_cons ?_
          refine wx_int ?_
          refine ⟨_, rfl, ?_⟩
          refine wa_nil ?_
          refine rc_call _ _ _ ⟨s1.1, (3 : Int), rfl, rfl⟩ ⟨⟨_, rfl⟩, rfl, trivial⟩ (show List.Nodup ([0] : List Nat) by decide) rfl (.inr fun _ z => by first | exact noerr_ne z | exact (nomatch z)) fun r1 _ => ?_
          refine ⟨_, rfl, ?_⟩
          refine wx_int ?_
          refine ⟨_, rfl, ?_⟩
          refine rx_cmp rfl ?_
          refine ⟨_, rfl, ?_⟩
          exact ⟨_, rfl, by walk_at "subc"⟩
        refine ⟨_, _, rfl, ?_, ?_⟩
        · refine ws_ctx (Γ' := [.own true ((wLst K yInt) r2.2), .val ((yLst K yStr) _law_names_here), .val (yInt _law_most), .own false ((wLst K yStr) s1.2), .val (yStr q1)]) rfl ?_
          refine ws_append yStr (xs0 := s1.2) rfl ?_
          refine wx_var rfl ?_
          refine ⟨_, s1.2, q1, _, rfl, rfl, rfl, fun z1 => ?_⟩
          exact ⟨_, rfl, by walk_at "subc"⟩
        · refine ws_next ?_
          exact ⟨_, rfl, by walk_at "subc"⟩
      refine ws_ctx (Γ' := [.own true ((wLst K yInt) s1.1), .val ((yLst K yStr) _law_names_here), .val (yInt _law_most), .own false ((wLst K yStr) s1.2), .any]) rfl ?_
      refine ws_ret ?_
      refine wx_take rfl ?_
      exact ⟨_, rfl, rfl, (by first | trivial | exact ⟨rfl, trivial⟩ | exact ⟨rfl, rfl, trivial⟩)⟩
def pre__law_exact (K : PySem.W.Frag) (A : Nat → Addr) (n : Nat) : List Ar → Cl → Prop := fun as d => ∃ (_law_actual : Dy) (_law_due_here : Dy), as = [.val ((yDy K) _law_actual), .val ((yDy K) _law_due_here)] ∧ d = ⟨(Bool), f__law_exact_r n _law_actual _law_due_here, fun r => .val (yBl r), fun r => []⟩
theorem pre__law_exact_zero {vs : List V} {H : Hp} {Q : VK} {E : XK} (h : spM A (pre__law_exact K A 0) vs H Q E) : False := by
  obtain ⟨S, as, d, h1, h2, h3, h4, h5, h6, h7⟩ := h
  obtain ⟨_law_actual, _law_due_here, rfl, rfl⟩ := h1
  exact h5 (f__law_exact_r.eq_1 _ _)
theorem ok__law_exact (T : Txt K mg A D) : ∀ n, FnOk P w K mg base CX0 (n + 1) (A 34) (D 34) ["_law_actual", "_law_due_here"] (spM A (pre__law_exact K A n))
  | 0 => ⟨fun vs H Q E h => (pre__law_exact_zero h).elim, fun A' outer s H args us vs Q E hr e0 hb r h => (pre__law_exact_zero h).elim⟩
  | n + 1 => by
    have G__law_exact : FnOk P w K mg base CX0 (n + 1) (A 34) (D 34) ["_law_actual", "_law_due_here"] (spM A (pre__law_exact K A n)) := ok__law_exact T n
    refine T.F__law_exact.ok sc__law_exact (fun vs H Q E h => ?_) (fun cdv A' outer s H vs Q E hr h => ?_)
    · exact spM_len h fun as d hp => by obtain ⟨_law_actual, _law_due_here, rfl, rfl⟩ := hp; rfl
    · have hu := hu_of hr
      refine ⟨_, (pss_cons (ps_if (pt_val (pe_callB (id := "isinstance") (cK_isi (K := K) rfl) (by rfl) T.z_isinstance (by decide +kernel) (pa_cons (pv 1) (pa_cons (pe_bltn (v := .ty "tuple") (u := .type "tuple") (by rfl) T.z_tuple (by decide +kernel) rfl) pa_nil))))
          (pss_cons (ps_if (PW.pt (pw_or (pt_not (pt_val (pe_callB (id := "isinstance") (cK_isi (K := K) rfl) (by rfl) T.z_isinstance (by decide +kernel) (pa_cons (pv 0) (pa_cons (pe_bltn (v := .ty "tuple") (u := .type "tuple") (by rfl) T.z_tuple (by decide +kernel) rfl) pa_nil))))) (pw_or1 (pt_cmpR op_ne (pe_callB (id := "len") (cK_len (K := K) rfl) (by rfl) T.z_len (by decide +kernel) (pa_cons (pv 0) pa_nil)) (pe_callB (id := "len") (cK_len (K := K) rfl) (by rfl) T.z_len (by decide +kernel) (pa_cons (pv 1) pa_nil)) (nomark _)))))
            (pss_one (ps_ret pe_bl))
            pss_nil)
          (pss_cons (ps_for PassesOwn.never rfl (pi_range1 rfl T.z_range (pa_cons (pe_callB (id := "len") (cK_len (K := K) rfl) (by rfl) T.z_len (by decide +kernel) (pa_cons (pv 1) pa_nil)) pa_nil)) (pg_name (i := 2) sc__law_exact.nd rfl (Or.inl rfl))
            (pss_one (ps_if (pt_not (pt_val (pe_call G__law_exact (hr.mono (by omega)) rfl T.g__law_exact T.F__law_exact.kp T.b__law_exact .nil pass0 (pa_cons (pe_ix (xK_tup (K := K) rfl) (pv 0) (pv 2) (fun _ _ => rfl)) (pa_cons (pe_ix (xK_tup (K := K) rfl) (pv 1) (pv 2) (fun _ _ => rfl)) pa_nil)))))
              (pss_one (ps_ret pe_bl))
              pss_nil)))
          (pss_one (ps_ret pe_bl))))
          pss_nil)
        (pss_cons (ps_if (pt_val (pe_callB (id := "isinstance") (cK_isi (K := K) rfl) (by rfl) T.z_isinstance (by decide +kernel) (pa_cons (pv 1) (pa_cons (pe_bltn (v := .ty "str") (u := .type "str") (by rfl) T.z_str (by decide +kernel) rfl) pa_nil))))
          (pss_one (ps_ret (pe_and (pe_callB (id := "isinstance") (cK_isi (K := K) rfl) (by rfl) T.z_isinstance (by decide +kernel) (pa_cons (pv 0) (pa_cons (pe_bltn (v := .ty "str") (u := .type "str") (by rfl) T.z_str (by decide +kernel) rfl) pa_nil))) (pe_one (pe_cmpR (oP_eq (K := K) rfl hr.units) (pv 0) (pv 1) (nomark _))))))
          pss_nil)
        (pss_one (ps_ret (pe_and (pe_callB (id := "isinstance") (cK_isi (K := K) rfl) (by rfl) T.z_isinstance (by decide +kernel) (pa_cons (pv 0) (pa_cons (pe_bltn (v := .ty "int") (u := .type "int") (by rfl) T.z_int (by decide +kernel) rfl) pa_nil))) (pe_and (pe_not (pe_callB (id := "isinstance") (cK_isi (K := K) rfl) (by rfl) T.z_isinstance (by decide +kernel) (pa_cons (pv 0) (pa_cons (pe_bltn (v := .ty "bool") (u := .type "bool") (by rfl) T.z_bool (by decide +kernel) rfl) pa_nil)))) (pe_one (pe_cmpR (oP_eq (K := K) rfl hr.units) (pv 0) (pv 1) (nomark _))))))))), ?_⟩
      refine fn_run0 h (fun as d hp => ?_) fun as d hp => ?_
      · obtain ⟨_law_actual, _law_due_here, rfl, rfl⟩ := hp; simp
      · obtain ⟨_law_actual, _law_due_here, rfl, rfl⟩ := hp
        refine ⟨_, f__law_exact_r.eq_2 _ _ _, ?_⟩
        refine ws_seq ?_
        refine ws_ctx (Γ' := [.val ((yDy K) _law_actual), .val ((yDy K) _law_due_here), .any]) rfl ?_
        refine ws_if ?_
        refine wt_b ?_
        refine wx_cb ?_
        refine wa_cons ?_
        refine wx_var rfl ?_
        refine ⟨_, rfl, ?_⟩
        refine wa_cons ?_
        refine wx_c (yCls "tuple") (fun _ _ => rfl) ?_
        refine ⟨_, rfl, ?_⟩
        refine wa_nil ?_
        refine rc_isiDy (K := K) (d := _law_due_here) (bn := false) (bi := false) (bs := false) (bt := true) rfl rfl rfl rfl ?_
        refine ⟨_, rfl, ?_⟩
        refine ⟨_, _, rfl, ?_, ?_⟩
        · refine ws_seq ?_
          refine ws_ctx (Γ' := [.val ((yDy K) _law_actual), .val ((yDy K) _law_due_here), .any]) rfl ?_
          refine ws_if ?_
          refine wt_orM (μ := Unit) ?_
          refine wt_not ?_
          refine wt_b ?_
          refine wx_cb ?_
          refine wa_cons ?_
          refine wx_var rfl ?_
          refine ⟨_, rfl, ?_⟩
          refine wa_cons ?_
          refine wx_c (yCls "tuple") (fun _ _ => rfl) ?_
          refine ⟨_, rfl, ?_⟩
          refine wa_nil ?_
          refine rc_isiDy (K := K) (d := _law_actual) (bn := false) (bi := false) (bs := false) (bt := true) rfl rfl rfl rfl ?_
          refine ⟨_, rfl, ?_⟩
          refine ⟨(fun s1 : Unit => [.val ((yDy K) _law_actual), .val ((yDy K) _law_due_here), .any]), _, (), _, rfl, by walk_at "subc", fun _ => ?_, fun r3 => ?_⟩
          · refine wt_b ?_
            refine wx_op ?_
            refine wx_cb ?_
            refine wa_cons ?_
            refine wx_asT (K := K) ?_
            refine wx_var rfl ?_
            refine ⟨_law_actual, _, rfl, rfl, fun r1 => ?_⟩
            refine ⟨_, rfl, ?_⟩
            refine wa_nil ?_
            refine rc_lenSq (pTup K) ?_
            rw [List.length_map]
            refine ⟨_, rfl, ?_⟩
            refine wx_cb ?_
            refine wa_cons ?_
            refine wx_asT (K := K) ?_
            refine wx_var rfl ?_
            refine ⟨_law_due_here, _, rfl, rfl, fun r2 => ?_⟩
            refine ⟨_, rfl, ?_⟩
            refine wa_nil ?_
            refine rc_lenSq (pTup K) ?_
            rw [List.length_map]
            refine ⟨_, rfl, ?_⟩
            refine rx_ne ?_
            refine ⟨_, rfl, ?_⟩
            exact ⟨_, rfl, by walk_at "subc"⟩
          refine ⟨_, _, rfl, ?_, ?_⟩
          · refine ws_ctx (Γ' := [.val ((yDy K) _law_actual), .val ((yDy K) _law_due_here), .any]) rfl ?_
            refine ws_ret ?_
            refine wx_bl ?_
            exact ⟨_, rfl, rfl, (by first | trivial | exact ⟨rfl, trivial⟩ | exact ⟨rfl, rfl, trivial⟩)⟩
          · refine ws_next ?_
            refine ws_seq ?_
            refine ws_ctx (Γ' := [.val ((yDy K) _law_actual), .val ((yDy K) _law_due_here), .any]) rfl ?_
            refine ws_forF (μ := Unit) (τ := (Bool)) yInt ?_
            refine wi_rng1 ?_
            refine wa_cons ?_
            refine wx_cb ?_
            refine wa_cons ?_
            refine wx_asT (K := K) ?_
            refine wx_var rfl ?_
            refine ⟨_law_due_here, _, rfl, rfl, fun r4 => ?_⟩
            refine ⟨_, rfl, ?_⟩
            refine wa_nil ?_
            refine rc_lenSq (pTup K) ?_
            rw [List.length_map]
            refine ⟨_, rfl, ?_⟩
            refine wa_nil ?_
            refine ⟨_, _, rfl, rfl, ?_⟩
            refine ⟨_, (fun s2 : Unit => [.val ((yDy K) _law_actual), .val ((yDy K) _law_due_here), .any]), (rng 0 ((r4.length : Int)).toNat), _, _, _, rfl, rfl, by walk_at "subc", fun s2 q1 => ?_, fun s2 => ?_⟩
            · refine wg_name (show 2 < 3 by decide) ?_
              refine ws_ctx (Γ' := [.val ((yDy K) _law_actual), .val ((yDy K) _law_due_here), .val (yInt q1)]) rfl ?_
              refine ws_if ?_
              refine wt_not ?_
              refine wt_b ?_
              refine wx_call ?_
              refine wa_cons ?_
              refine wx_op ?_
              refine wx_var rfl ?_
              refine ⟨_, rfl, ?_⟩
              refine wx_var rfl ?_
              refine ⟨_, rfl, ?_⟩
              refine rx_ixDy (K := K) (d := _law_actual) rfl fun r6 => ?_
              refine ⟨_, rfl, ?_⟩
              refine wa_cons ?_
              refine wx_op ?_
              refine wx_var rfl ?_
              refine ⟨_, rfl, ?_⟩
              refine wx_var rfl ?_
              refine ⟨_, rfl, ?_⟩
              refine rx_ixDy (K := K) (d := _law_due_here) rfl fun r7 => ?_
              refine ⟨_, rfl, ?_⟩
              refine wa_nil ?_
              refine rc_call _ _ _ ⟨r6, r7, rfl, rfl⟩ ⟨rfl, rfl, trivial⟩ (show List.Nodup ([] : List Nat) by decide) rfl (.inr fun _ z => f__law_exact_r_ne z) fun r8 _ => ?_
              refine ⟨_, rfl, ?_⟩
              refine ⟨_, _, rfl, ?_, ?_⟩
              · refine ws_ctx (Γ' := [.val ((yDy K) _law_actual), .val ((yDy K) _law_due_here), .val (yInt q1)]) rfl ?_
                refine ws_ret ?_
                refine wx_bl ?_
                refine ⟨_, rfl, ?_⟩
                exact ⟨_, rfl, rfl, (by first | trivial | exact ⟨rfl, trivial⟩ | exact ⟨rfl, rfl, trivial⟩)⟩
              · refine ws_next ?_
                exact ⟨_, rfl, by walk_at "subc"⟩
            refine ws_ctx (Γ' := [.val ((yDy K) _law_actual), .val ((yDy K) _law_due_here), .any]) rfl ?_
            refine ws_ret ?_
            refine wx_bl ?_
            exact ⟨_, rfl, rfl, (by first | trivial | exact ⟨rfl, trivial⟩ | exact ⟨rfl, rfl, trivial⟩)⟩
        · refine ws_next ?_
          refine ws_seq ?_
          refine ws_ctx (Γ' := [.val ((yDy K) _law_actual), .val ((yDy K) _law_due_here), .any]) rfl ?_
          refine ws_if ?_
          refine wt_b ?_
          refine wx_cb ?_
          refine wa_cons ?_
          refine wx_var rfl ?_
          refine ⟨_, rfl, ?_⟩
          refine wa_cons ?_
          refine wx_c (yCls "str") (fun _ _ => rfl) ?_
          refine ⟨_, rfl, ?_⟩
          refine wa_nil ?_
          refine rc_isiDy (K := K) (d := _law_due_here) (bn := false) (bi := false) (bs := true) (bt := false) rfl rfl rfl rfl ?_
          refine ⟨_, rfl, ?_⟩
          refine ⟨_, _, rfl, ?_, ?_⟩
          · refine ws_ctx (Γ' := [.val ((yDy K) _law_actual), .val ((yDy K) _law_due_here), .any]) rfl ?_
            refine ws_ret ?_
            refine wx_andV (decide (_law_actual = _law_due_here)) ?_
            refine wx_cb ?_
            refine wa_cons ?_
            refine wx_var rfl ?_
            refine ⟨_, rfl, ?_⟩
            refine wa_cons ?_
            refine wx_c (yCls "str") (fun _ _ => rfl) ?_
            refine ⟨_, rfl, ?_⟩
            refine wa_nil ?_
            refine rc_isiDy (K := K) (d := _law_actual) (bn := false) (bi := false) (bs := true) (bt := false) rfl rfl rfl rfl ?_
            refine ⟨_, rfl, fun _ => ?_, ?_⟩
            · refine wx_op ?_
              refine wx_var rfl ?_
              refine ⟨_, rfl, ?_⟩
              refine wx_var rfl ?_
              refine ⟨_, rfl, ?_⟩
              refine rx_eqD (K := K) (t := (yDy K)) (x := _law_actual) (y := _law_due_here) (Nat.le_of_ble_eq_true rfl) ?_
              exact ⟨rfl, rfl, rfl⟩
            exact ⟨_, rfl, rfl, (by first | trivial | exact ⟨rfl, trivial⟩ | exact ⟨rfl, rfl, trivial⟩)⟩
          · refine ws_next ?_
            refine ws_ctx (Γ' := [.val ((yDy K) _law_actual), .val ((yDy K) _law_due_here), .any]) rfl ?_
            refine ws_ret ?_
            refine wx_andV ((!(Dy.sel _law_actual false false false false)) && (decide (_law_actual = _law_due_here))) ?_
            refine wx_cb ?_
            refine wa_cons ?_
            refine wx_var rfl ?_
            refine ⟨_, rfl, ?_⟩
            refine wa_cons ?_
            refine wx_c (yCls "int") (fun _ _ => rfl) ?_
            refine ⟨_, rfl, ?_⟩
            refine wa_nil ?_
            refine rc_isiDy (K := K) (d := _law_actual) (bn := false) (bi := true) (bs := false) (bt := false) rfl rfl rfl rfl ?_
            refine ⟨_, rfl, fun _ => ?_, ?_⟩
            · refine wx_andV (decide (_law_actual = _law_due_here)) ?_
              refine wx_notV ?_
              refine wx_cb ?_
              refine wa_cons ?_
              refine wx_var rfl ?_
              refine ⟨_, rfl, ?_⟩
              refine wa_cons ?_
              refine wx_c (yCls "bool") (fun _ _ => rfl) ?_
              refine ⟨_, rfl, ?_⟩
              refine wa_nil ?_
              refine rc_isiDy (K := K) (d := _law_actual) (bn := false) (bi := false) (bs := false) (bt := false) rfl rfl rfl rfl ?_
              refine ⟨_, rfl, ?_⟩
              refine ⟨_, rfl, fun _ => ?_, ?_⟩
              · refine wx_op ?_
                refine wx_var rfl ?_
                refine ⟨_, rfl, ?_⟩
                refine wx_var rfl ?_
                refine ⟨_, rfl, ?_⟩
                refine rx_eqD (K := K) (t := (yDy K)) (x := _law_actual) (y := _law_due_here) (Nat.le_of_ble_eq_true rfl) ?_
                exact ⟨rfl, rfl, rfl⟩
              exact ⟨rfl, rfl, rfl⟩
            exact ⟨_, rfl, rfl, (by first | trivial | exact ⟨rfl, trivial⟩ | exact ⟨rfl, rfl, trivial⟩)⟩
def pre__law_rows (K : PySem.W.Frag) (A : Nat → Addr) : List Ar → Cl → Prop := fun as d => ∃ (_law_count : Int), as = [.val (yInt _law_count)] ∧ d = ⟨((List (List Int))), f__law_rows _law_count, fun r => .val ((yLst K (yTup K yInt)) r), fun r => []⟩
theorem ok__law_rows (T : Txt K mg A D) : FnOk P w K mg base CX0 1 (A 35) (D 35) ["_law_count"] (spM A (pre__law_rows K A)) := by
  refine T.F__law_rows.ok sc__law_rows (fun vs H Q E h => ?_) (fun cdv A' outer s H vs Q E hr h => ?_)
  · exact spM_len h fun as d hp => by obtain ⟨_law_count, rfl, rfl⟩ := hp; rfl
  · have hu := hu_of hr
    refine ⟨_, (pss_cons (ps_set (i := 1) sc__law_rows.nd rfl (Or.inl rfl) (pe_lst (pa_cons (pe_tup pa_nil) pa_nil)))
      (pss_cons (ps_for PassesOwn.never rfl (pi_range1 rfl T.z_range (pa_cons (pv 0) pa_nil)) (pg_name (i := 2) sc__law_rows.nd rfl (Or.inl rfl))
        (pss_one (ps_set (i := 1) sc__law_rows.nd rfl (Or.inl rfl) (pe_op (op_catS (K := K) rfl) (pe_lc (own := [("_law_row", 3)]) (g := gName 3) (tt := tYes) rfl sc__law_rows.nd (iK_list (K := K) rfl (pv 1)) (blkOk_by (N := N__law_rows) (sc := defScope (topS 35)) (by decide +kernel)) (fun _ _ _ _ _ => (pg_name (i := 3) sc__law_rows.nd rfl (Or.inl rfl))) (fun _ _ _ _ _ => pts_nil) (fun _ _ _ _ _ => (pe_op (oK_catA (K := K) rfl) (pv 3) (pe_tup (pa_cons pe_int pa_nil))))) (pe_lc (own := [("_law_row", 3)]) (g := gName 3) (tt := tYes) rfl sc__law_rows.nd (iK_list (K := K) rfl (pv 1)) (blkOk_by (N := N__law_rows) (sc := defScope (topS 35)) (by decide +kernel)) (fun _ _ _ _ _ => (pg_name (i := 3) sc__law_rows.nd rfl (Or.inl rfl))) (fun _ _ _ _ _ => pts_nil) (fun _ _ _ _ _ => (pe_op (oK_catA (K := K) rfl) (pv 3) (pe_tup (pa_cons pe_int pa_nil)))))))))
      (pss_one (ps_ret (pv 1))))), ?_⟩
    refine fn_run0 h (fun as d hp => ?_) fun as d hp => ?_
    · obtain ⟨_law_count, rfl, rfl⟩ := hp; simp
    · obtain ⟨_law_count, rfl, rfl⟩ := hp
      refine ⟨_, (show f__law_rows _law_count = Res.noerr _ from rfl), ?_⟩
      refine ws_seq ?_
      refine ws_ctx (Γ' := [.val (yInt _law_count), .any, .any, .any]) rfl ?_
      refine ws_setL (yLst K (yTup K yInt)) ?_
      refine wx_fz ?_
      refine wx_lst (K := K) ?_
      refine wa_cons ?_
      refine wx_tup (K := K) ?_
      refine wa_nil ?_
      refine ⟨[], rfl, show 0 ≤ 1000 by decide, ?_⟩
      refine ⟨_, rfl, ?_⟩
      refine wa_nil ?_
      refine ⟨[(yTup K yInt) ([] : (List Int))], rfl, show 1 ≤ 1000 by decide, ?_⟩
      refine ⟨_, rfl, ?_⟩
      refine ⟨([([] : (List Int))] : List (List Int)), _, rfl, show 1 < 4 by decide, rfl, fun _law_rows_here => ?_⟩
      refine ws_seq ?_
      refine ws_ctx (Γ' := [.val (yInt _law_count), .val ((yLst K (yTup K yInt)) _law_rows_here), .any, .any]) rfl ?_
      refine ws_for (μ := ((List (List Int)))) yInt ?_
      refine wi_rng1 ?_
      refine wa_cons ?_
      refine wx_var rfl ?_
      refine ⟨_, rfl, ?_⟩
      refine wa_nil ?_
      refine ⟨_, _, rfl, rfl, ?_⟩
      refine ⟨_, (fun s1 : ((List (List Int))) => [.val (yInt _law_count), .val ((yLst K (yTup K yInt)) s1), .any, .any]), (rng 0 (_law_count).toNat), _, _, rfl, rfl, by walk_at "subc", fun s1 q1 => ?_, fun s1 => ?_⟩
      · refine wg_name (show 2 < 4 by decide) ?_
        refine ws_ctx (Γ' := [.val (yInt _law_count), .val ((yLst K (yTup K yInt)) s1), .val (yInt q1), .any]) rfl ?_
        refine ws_setL (yLst K (yTup K yInt)) ?_
        refine wx_fz ?_
        refine wx_op ?_
        refine wx_fz ?_
        refine wx_lcU (K := K) (yTup K yInt) (yTup K yInt) (gk_name (by decide)) ?_
        refine wi_list ?_
        refine wx_var rfl ?_
        refine ⟨_, rfl, ?_⟩
        refine ⟨_, s1, _, rfl, rfl, fun q2 => ?_, fun r3 => ?_⟩
        · refine wg_ctx (Γ' := [.val (yInt _law_count), .val ((yLst K (yTup K yInt)) s1), .val (yInt q1), .any]) rfl ?_
          refine wg_name (show 3 < 4 by decide) ?_
          refine wt_yes ?_
          refine ⟨_, (if_pos rfl).symm, ?_⟩
          refine wx_op ?_
          refine wx_var rfl ?_
          refine ⟨_, rfl, ?_⟩
          refine wx_tup (K := K) ?_
          refine wa_cons ?_
          refine wx_int ?_
          refine ⟨_, rfl, ?_⟩
          refine wa_nil ?_
          refine ⟨[yInt (0 : Int)], rfl, show 1 ≤ 1000 by decide, ?_⟩
          refine ⟨_, rfl, ?_⟩
          refine rx_catT (t := yInt) (xs := q2) (ys := ([(0 : Int)] : (List Int))) rfl ?_
          exact ⟨_, rfl, rfl⟩
        refine ⟨_, rfl, ?_⟩
        refine ⟨_, rfl, ?_⟩
        refine wx_fz ?_
        refine wx_lcU (K := K) (yTup K yInt) (yTup K yInt) (gk_name (by decide)) ?_
        refine wi_list ?_
        refine wx_var rfl ?_
        refine ⟨_, rfl, ?_⟩
        refine ⟨_, s1, _, rfl, rfl, fun q3 => ?_, fun r5 => ?_⟩
        · refine wg_ctx (Γ' := [.val (yInt _law_count), .val ((yLst K (yTup K yInt)) s1), .val (yInt q1), .any]) rfl ?_
          refine wg_name (show 3 < 4 by decide) ?_
          refine wt_yes ?_
          refine ⟨_, (if_pos rfl).symm, ?_⟩
          refine wx_op ?_
          refine wx_var rfl ?_
          refine ⟨_, rfl, ?_⟩
          refine wx_tup (K := K) ?_
          refine wa_cons ?_
          refine wx_int ?_
          refine ⟨_, rfl, ?_⟩
          refine wa_nil ?_
          refine ⟨[yInt (1 : Int)], rfl, show 1 ≤ 1000 by decide, ?_⟩
          refine ⟨_, rfl, ?_⟩
          refine rx_catT (t := yInt) (xs := q3) (ys := ([(1 : Int)] : (List Int))) rfl ?_
          exact ⟨_, rfl, rfl⟩
        refine ⟨_, rfl, ?_⟩
        refine ⟨_, rfl, ?_⟩
        refine rx_catL (t := (yTup K yInt)) (xs := r3) (ys := r5) rfl ?_
        refine ⟨_, rfl, ?_⟩
        refine ⟨(r3 ++ r5), _, rfl, show 1 < 4 by decide, rfl, fun _law_rows_here => ?_⟩
        exact ⟨_, rfl, by walk_at "subc"⟩
      refine ws_ctx (Γ' := [.val (yInt _law_count), .val ((yLst K (yTup K yInt)) s1), .any, .any]) rfl ?_
      refine ws_ret ?_
      refine wx_var rfl ?_
      exact ⟨_, rfl, rfl, (by first | trivial | exact ⟨rfl, trivial⟩ | exact ⟨rfl, rfl, trivial⟩)⟩
def pre__law_kept (K : PySem.W.Frag) (A : Nat → Addr) : List Ar → Cl → Prop := fun as d => ∃ (_law_names_here : (List Str)) (_law_row : (List Int)) (_law_clauses_here : (List (List (Str × Int)))), as = [.val ((yLst K yStr) _law_names_here), .val ((yTup K yInt) _law_row), .val ((yTup K (yTup K (yPr K yStr yInt))) _law_clauses_here)] ∧ d = ⟨(Bool), f__law_kept _law_names_here _law_row _law_clauses_here, fun r => .val (yBl r), fun r => []⟩
theorem ok__law_kept (T : Txt K mg A D) : FnOk P w K mg base CX0 1 (A 36) (D 36) ["_law_names_here", "_law_row", "_law_clauses_here"] (spM A (pre__law_kept K A)) := by
  refine T.F__law_kept.ok sc__law_kept (fun vs H Q E h => ?_) (fun cdv A' outer s H vs Q E hr h => ?_)
  · exact spM_len h fun as d hp => by obtain ⟨_law_names_here, _law_row, _law_clauses_here, rfl, rfl⟩ := hp; rfl
  · have hu := hu_of hr
    refine ⟨_, (pss_cons (ps_for PassesOwn.never rfl (iK_tup (K := K) rfl (pv 2)) (pg_name (i := 3) sc__law_kept.nd rfl (Or.inl rfl))
        (pss_one (ps_if (pt_cmpR op_eq (pe_callB (id := "len") (cK_len (K := K) rfl) (by rfl) T.z_len (by decide +kernel) (pa_cons (pe_lc (own := [("_law_pair", 4)]) (g := gName 4)  rfl sc__law_kept.nd (iK_tup (K := K) rfl (pv 3)) (blkOk_by (N := N__law_kept) (sc := defScope (topS 36)) (by decide +kernel)) (fun _ _ _ _ _ => (pg_name (i := 4) sc__law_kept.nd rfl (Or.inl rfl))) (fun _ _ _ _ _ => (pts_one (pt_cmpR op_eq (pe_ix (xK_tup (K := K) rfl) (pv 1) (pe_lindex (K := K) rfl (pv 0) (pe_ix (xK_tup (K := K) rfl) (pv 4) pe_int (fun _ _ => rfl))) (fun _ _ => rfl)) (pe_ix (xK_tup (K := K) rfl) (pv 4) pe_int (fun _ _ => rfl)) (nomark _)))) (fun _ _ _ _ _ => (pv 4))) pa_nil)) pe_int (nomark _))
          (pss_one (ps_ret pe_bl))
          pss_nil)))
      (pss_one (ps_ret pe_bl))), ?_⟩
    refine fn_run0 h (fun as d hp => ?_) fun as d hp => ?_
    · obtain ⟨_law_names_here, _law_row, _law_clauses_here, rfl, rfl⟩ := hp; simp
    · obtain ⟨_law_names_here, _law_row, _law_clauses_here, rfl, rfl⟩ := hp
      refine ⟨_, (show f__law_kept _law_names_here _law_row _law_clauses_here = Res.noerr _ from rfl), ?_⟩
      refine ws_seq ?_
      refine ws_ctx (Γ' := [.val ((yLst K yStr) _law_names_here), .val ((yTup K yInt) _law_row), .val ((yTup K (yTup K (yPr K yStr yInt))) _law_clauses_here), .any, .any]) rfl ?_
      refine ws_forF (μ := Unit) (τ := (Bool)) (yTup K (yPr K yStr yInt)) ?_
      refine wi_tup ?_
      refine wx_var rfl ?_
      refine ⟨_, rfl, ?_⟩
      refine ⟨_, (fun s1 : Unit => [.val ((yLst K yStr) _law_names_here), .val ((yTup K yInt) _law_row), .val ((yTup K (yTup K (yPr K yStr yInt))) _law_clauses_here), .any, .any]), _law_clauses_here, _, _, _, rfl, rfl, by walk_at "subc", fun s1 q1 => ?_, fun s1 => ?_⟩
      · refine wg_name (show 3 < 5 by decide) ?_
        refine ws_ctx (Γ' := [.val ((yLst K yStr) _law_names_here), .val ((yTup K yInt) _law_row), .val ((yTup K (yTup K (yPr K yStr yInt))) _law_clauses_here), .val ((yTup K (yPr K yStr yInt)) q1), .any]) rfl ?_
        refine ws_if ?_
        refine wt_b ?_
        refine wx_op ?_
        refine wx_cb ?_
        refine wa_cons ?_
        refine wx_fz ?_
        refine wx_lcU (K := K) (yPr K yStr yInt) (yPr K yStr yInt) (gk_name (by decide)) ?_
        refine wi_tup ?_
        refine wx_var rfl ?_
        refine ⟨_, rfl, ?_⟩
        refine ⟨_, q1, _, rfl, rfl, fun q2 => ?_, fun r3 => ?_⟩
        · refine wg_ctx (Γ' := [.val ((yLst K yStr) _law_names_here), .val ((yTup K yInt) _law_row), .val ((yTup K (yTup K (yPr K yStr yInt))) _law_clauses_here), .val ((yTup K (yPr K yStr yInt)) q1), .any]) rfl ?_
          refine wg_name (show 4 < 5 by decide) ?_
          refine wt_b ?_
          refine wx_op ?_
          refine wx_op ?_
          refine wx_var rfl ?_
          refine ⟨_, rfl, ?_⟩
          refine wx_lindex (K := K) ?_
          refine wx_var rfl ?_
          refine ⟨_law_names_here, rfl, ?_⟩
          refine wx_op ?_
          refine wx_var rfl ?_
          refine ⟨_, rfl, ?_⟩
          refine wx_int ?_
          refine ⟨_, rfl, ?_⟩
          refine rx_ixT rfl ?_
          refine ⟨q2.1, _, rfl, rfl, fun r1 => ?_⟩
          refine ⟨_, rfl, ?_⟩
          refine rx_ixTp (t := yInt) (xs := _law_row) rfl fun r2 => ?_
          refine ⟨_, rfl, ?_⟩
          refine wx_op ?_
          refine wx_var rfl ?_
          refine ⟨_, rfl, ?_⟩
          refine wx_int ?_
          refine ⟨_, rfl, ?_⟩
          refine rx_ixT rfl ?_
          refine ⟨_, rfl, ?_⟩
          refine rx_eq ?_
          refine ⟨_, rfl, ?_⟩
          refine ⟨_, rfl, ?_⟩
          refine wx_var rfl ?_
          exact ⟨_, rfl, rfl⟩
        refine ⟨_, rfl, ?_⟩
        refine ⟨_, rfl, ?_⟩
        refine wa_nil ?_
        refine rc_lenSq (pLst K) ?_
        rw [List.length_map]
        refine ⟨_, rfl, ?_⟩
        refine wx_int ?_
        refine ⟨_, rfl, ?_⟩
        refine rx_eq ?_
        refine ⟨_, rfl, ?_⟩
        refine ⟨_, _, rfl, ?_, ?_⟩
        · refine ws_ctx (Γ' := [.val ((yLst K yStr) _law_names_here), .val ((yTup K yInt) _law_row), .val ((yTup K (yTup K (yPr K yStr yInt))) _law_clauses_here), .val ((yTup K (yPr K yStr yInt)) q1), .any]) rfl ?_
          refine ws_ret ?_
          refine wx_bl ?_
          refine ⟨_, rfl, ?_⟩
          exact ⟨_, rfl, rfl, (by first | trivial | exact ⟨rfl, trivial⟩ | exact ⟨rfl, rfl, trivial⟩)⟩
        · refine ws_next ?_
          exact ⟨_, rfl, by walk_at "subc"⟩
      refine ws_ctx (Γ' := [.val ((yLst K yStr) _law_names_here), .val ((yTup K yInt) _law_row), .val ((yTup K (yTup K (yPr K yStr yInt))) _law_clauses_here), .any, .any]) rfl ?_
      refine ws_ret ?_
      refine wx_bl ?_
      exact ⟨_, rfl, rfl, (by first | trivial | exact ⟨rfl, trivial⟩ | exact ⟨rfl, rfl, trivial⟩)⟩
def pre__law_clause (K : PySem.W.Frag) (A : Nat → Addr) : List Ar → Cl → Prop := fun as d => ∃ (_law_source_here : (List Int)) (_law_names_here : (List Str)) (_law_held : (List (Str × Int))), as = [.io ((wLst K yInt) _law_source_here), .val ((yLst K yStr) _law_names_here), .val ((yDct (κ := Str) yInt) _law_held)] ∧ d = ⟨((List (Str × Int)) × (List Int)), f__law_clause _law_source_here _law_names_here _law_held, fun r => .val ((yTup K (yPr K yStr yInt)) r.1), fun r => [(wLst K yInt) r.2]⟩
theorem ok__law_clause (T : Txt K mg A D) : FnOk P w K mg base CX0 2 (A 37) (D 37) ["_law_source_here", "_law_names_here", "_law_held"] (spM A (pre__law_clause K A)) := by
  refine T.F__law_clause.ok sc__law_clause (fun vs H Q E h => ?_) (fun cdv A' outer s H vs Q E hr h => ?_)
  · exact spM_len h fun as d hp => by obtain ⟨_law_source_here, _law_names_here, _law_held, rfl, rfl⟩ := hp; rfl
  · have hu := hu_of hr
    have G__law_draw : FnOk P w K mg base CX0 1 (A 32) (D 32) ["_law_source_here", "_law_limit"] (spM A (pre__law_draw K A)) := ok__law_draw T
    refine ⟨_, (pss_cons (ps_set (i := 3) sc__law_clause.nd rfl (Or.inl rfl) (pe_lst pa_nil))
      (pss_cons (ps_for PassesOwn.never rfl (iK_list (K := K) rfl (pv 1)) (pg_name (i := 4) sc__law_clause.nd rfl (Or.inl rfl))
        (pss_one (ps_if (pt_cmpR op_lt (pe_call G__law_draw (hr.mono (by decide)) rfl T.g__law_draw T.F__law_draw.kp T.b__law_draw .nil pass0 (pa_cons (pv 0) (pa_cons pe_int pa_nil))) pe_int (nomark _))
          (pss_one (ps_expr (pe_bm PySem.F.plainAttrs_list PySem.F.slot_list_append PySem.F.type_list_append mt_append (pv 3) (pa_cons (pe_tup (pa_cons (pv 4) (pa_cons (pe_call G__law_draw (hr.mono (by decide)) rfl T.g__law_draw T.F__law_draw.kp T.b__law_draw .nil pass0 (pa_cons (pv 0) (pa_cons pe_int pa_nil))) pa_nil))) pa_nil))))
          pss_nil)))
      (pss_cons (ps_if (PW.pt (pw_and (pt_cmpR op_eq (pe_callB (id := "len") (cK_len (K := K) rfl) (by rfl) T.z_len (by decide +kernel) (pa_cons (pv 3) pa_nil)) pe_int (nomark _)) (pw_and (pt_cmpR op_gt (pe_callB (id := "len") (cK_len (K := K) rfl) (by rfl) T.z_len (by decide +kernel) (pa_cons (pv 1) pa_nil)) pe_int (nomark _)) (pw_and1 (pt_cmpR op_gt (pe_call G__law_draw (hr.mono (by decide)) rfl T.g__law_draw T.F__law_draw.kp T.b__law_draw .nil pass0 (pa_cons (pv 0) (pa_cons pe_int pa_nil))) pe_int (nomark _))))))
        (pss_cons (ps_set (i := 4) sc__law_clause.nd rfl (Or.inl rfl) (pe_ix (xK_list (K := K) rfl) (pv 1) (pe_call G__law_draw (hr.mono (by decide)) rfl T.g__law_draw T.F__law_draw.kp T.b__law_draw .nil pass0 (pa_cons (pv 0) (pa_cons (pe_callB (id := "len") (cK_len (K := K) rfl) (by rfl) T.z_len (by decide +kernel) (pa_cons (pv 1) pa_nil)) pa_nil))) (fun _ _ => rfl)))
        (pss_one (ps_expr (pe_bm PySem.F.plainAttrs_list PySem.F.slot_list_append PySem.F.type_list_append mt_append (pv 3) (pa_cons (pe_tup (pa_cons (pv 4) (pa_cons (pe_call G__law_draw (hr.mono (by decide)) rfl T.g__law_draw T.F__law_draw.kp T.b__law_draw .nil pass0 (pa_cons (pv 0) (pa_cons pe_int pa_nil))) pa_nil))) pa_nil)))))
        pss_nil)
      (pss_cons (ps_if (PW.pt (pw_and (pt_cmpR op_gt (pe_callB (id := "len") (cK_len (K := K) rfl) (by rfl) T.z_len (by decide +kernel) (pa_cons (pv 3) pa_nil)) pe_int (nomark _)) (pw_and1 (pt_cmpR op_eq (pe_callB (id := "len") (cK_len (K := K) rfl) (by rfl) T.z_len (by decide +kernel) (pa_cons (pe_lc (own := [("_law_pair", 5)]) (g := gName 5)  rfl sc__law_clause.nd (iK_list (K := K) rfl (pv 3)) (blkOk_by (N := N__law_clause) (sc := defScope (topS 37)) (by decide +kernel)) (fun _ _ _ _ _ => (pg_name (i := 5) sc__law_clause.nd rfl (Or.inl rfl))) (fun _ _ _ _ _ => (pts_one (pt_cmpR op_eq (pe_dget2 hu (pv 2) (pe_ix (xK_tup (K := K) rfl) (pv 5) pe_int (fun _ _ => rfl)) (pe_ix (xK_tup (K := K) rfl) (pv 5) pe_int (fun _ _ => rfl)) ⟨rfl, rfl, rfl, rfl⟩) (pe_ix (xK_tup (K := K) rfl) (pv 5) pe_int (fun _ _ => rfl)) (nomark _)))) (fun _ _ _ _ _ => (pv 5))) pa_nil)) pe_int (nomark _)))))
        (pss_one (ps_asg (pe_tup (pa_cons (pe_ix (xK_tup (K := K) rfl) (pe_ix (xK_list (K := K) rfl) (pv 3) pe_int (fun _ _ => rfl)) pe_int (fun _ _ => rfl)) (pa_cons (pe_op op_sub pe_int (pe_ix (xK_tup (K := K) rfl) (pe_ix (xK_list (K := K) rfl) (pv 3) pe_int (fun _ _ => rfl)) pe_int (fun _ _ => rfl))) pa_nil))) (pg_sub (pv 3) pe_int set_list)))
        pss_nil)
      (pss_one (ps_ret (pe_callTy (T := "tuple") (cK_tuple (K := K) rfl) (by rfl) T.z_tuple (by decide +kernel) (pa_cons (pv 3) pa_nil)))))))), ?_⟩
    refine fn_run0 h (fun as d hp => ?_) fun as d hp => ?_
    · obtain ⟨_law_source_here, _law_names_here, _law_held, rfl, rfl⟩ := hp; simp
    · obtain ⟨_law_source_here, _law_names_here, _law_held, rfl, rfl⟩ := hp
      refine ⟨_, (show f__law_clause _law_source_here _law_names_here _law_held = Res.noerr _ from rfl), ?_⟩
      refine ws_seq ?_
      refine ws_ctx (Γ' := [.own true ((wLst K yInt) _law_source_here), .val ((yLst K yStr) _law_names_here), .val ((yDct (κ := Str) yInt) _law_held), .any, .any, .any]) rfl ?_
      refine ws_setO (wLst K (yPr K yStr yInt)) ?_
      refine wx_lst (K := K) ?_
      refine wa_nil ?_
      refine ⟨[], rfl, show 0 ≤ 1000 by decide, ?_⟩
      refine ⟨([] : List (Str × Int)), _, rfl, show 3 < 6 by decide, rfl, fun _law_literals => ?_⟩
      refine ws_seq ?_
      refine ws_ctx (Γ' := [.own true ((wLst K yInt) _law_source_here), .val ((yLst K yStr) _law_names_here), .val ((yDct (κ := Str) yInt) _law_held), .own false ((wLst K (yPr K yStr yInt)) _law_literals), .any, .any]) rfl ?_
      refine ws_for (μ := ((List Int) × (List (Str × Int)))) yStr ?_
      refine wi_list ?_
      refine wx_var rfl ?_
      refine ⟨_, rfl, ?_⟩
      refine ⟨_, (fun s1 : ((List Int) × (List (Str × Int))) => [.own true ((wLst K yInt) s1.1), .val ((yLst K yStr) _law_names_here), .val ((yDct (κ := Str) yInt) _law_held), .own false ((wLst K (yPr K yStr yInt)) s1.2), .any, .any]), _law_names_here, _, _, rfl, rfl, by walk_at "subc", fun s1 q1 => ?_, fun s1 => ?_⟩
      · refine wg_name (show 4 < 6 by decide) ?_
        refine ws_ctx (Γ' := [.own true ((wLst K yInt) s1.1), .val ((yLst K yStr) _law_names_here), .val ((yDct (κ := Str) yInt) _law_held), .own false ((wLst K (yPr K yStr yInt)) s1.2), .val (yStr q1), .any]) rfl ?_
        refine ws_if ?_
        refine wt_b ?_
        refine wx_op ?_
        refine wx_call ?_
        refine wa_io rfl ?_
        refine wa_cons ?_
        refine wx_int ?_
        refine ⟨_, rfl, ?_⟩
        refine wa_nil ?_
        refine rc_call _ _ _ ⟨s1.1, (5 : Int), rfl, rfl⟩ ⟨⟨_, rfl⟩, rfl, trivial⟩ (show List.Nodup ([0] : List Nat) by decide) rfl (.inr fun _ z => by first | exact noerr_ne z | exact (nomatch z)) fun r1 _ => ?_
        refine ⟨_, rfl, ?_⟩
        refine wx_int ?_
        refine ⟨_, rfl, ?_⟩
        refine rx_cmp rfl ?_
        refine ⟨_, rfl, ?_⟩
        refine ⟨_, _, rfl, ?_, ?_⟩
        · refine ws_ctx (Γ' := [.own true ((wLst K yInt) r1.2), .val ((yLst K yStr) _law_names_here), .val ((yDct (κ := Str) yInt) _law_held), .own false ((wLst K (yPr K yStr yInt)) s1.2), .val (yStr q1), .any]) rfl ?_
          refine ws_append (yPr K yStr yInt) (xs0 := s1.2) rfl ?_
          refine wx_tup (K := K) ?_
          refine wa_cons ?_
          refine wx_var rfl ?_
          refine ⟨_, rfl, ?_⟩
          refine wa_cons ?_
          refine wx_call ?_
          refine wa_io rfl ?_
          refine wa_cons ?_
          refine wx_int ?_
          refine ⟨_, rfl, ?_⟩
          refine wa_nil ?_
          refine rc_call _ _ _ ⟨r1.2, (2 : Int), rfl, rfl⟩ ⟨⟨_, rfl⟩, rfl, trivial⟩ (show List.Nodup ([0] : List Nat) by decide) rfl (.inr fun _ z => by first | exact noerr_ne z | exact (nomatch z)) fun r2 _ => ?_
          refine ⟨_, rfl, ?_⟩
          refine wa_nil ?_
          refine ⟨[yStr q1, yInt r2.1], rfl, show 2 ≤ 1000 by decide, ?_⟩
          refine ⟨_, s1.2, (q1, r2.1), _, rfl, rfl, rfl, fun z1 => ?_⟩
          exact ⟨_, rfl, by walk_at "subc"⟩
        · refine ws_next ?_
          exact ⟨_, rfl, by walk_at "subc"⟩
      refine ws_seq ?_
      refine ws_ctx (Γ' := [.own true ((wLst K yInt) s1.1), .val ((yLst K yStr) _law_names_here), .val ((yDct (κ := Str) yInt) _law_held), .own false ((wLst K (yPr K yStr yInt)) s1.2), .any, .any]) rfl ?_
      refine ws_blk (fun s4 : ((List Int) × (List (Str × Int))) => [.own true ((wLst K yInt) s4.1), .val ((yLst K yStr) _law_names_here), .val ((yDct (κ := Str) yInt) _law_held), .own false ((wLst K (yPr K yStr yInt)) s4.2), .any, .any]) rfl ?_ ?_
      · refine ws_if ?_
        refine wt_andM (μ := ((List Int))) ?_
        refine wt_b ?_
        refine wx_op ?_
        refine wx_peek ?_
        refine wx_cb ?_
        refine wa_cons ?_
        refine wx_var rfl ?_
        refine ⟨_, rfl, ?_⟩
        refine wa_nil ?_
        refine rc_lenSq (pLst K) ?_
        rw [List.length_map]
        refine ⟨_, rfl, imm_int, ?_⟩
        refine ⟨_, rfl, ?_⟩
        refine wx_int ?_
        refine ⟨_, rfl, ?_⟩
        refine rx_eq ?_
        refine ⟨_, rfl, ?_⟩
        refine ⟨(fun s3 : ((List Int)) => [.own true ((wLst K yInt) s3), .val ((yLst K yStr) _law_names_here), .val ((yDct (κ := Str) yInt) _law_held), .own false ((wLst K (yPr K yStr yInt)) s1.2), .any, .any]), _, (s1.1), _, rfl, by walk_at "subc", fun _ => ?_, fun r5 => ?_⟩
        · refine wt_andM (μ := ((List Int))) ?_
          refine wt_b ?_
          refine wx_op ?_
          refine wx_cb ?_
          refine wa_cons ?_
          refine wx_var rfl ?_
          refine ⟨_, rfl, ?_⟩
          refine wa_nil ?_
          refine rc_lenSq (pLst K) ?_
          rw [List.length_map]
          refine ⟨_, rfl, ?_⟩
          refine wx_int ?_
          refine ⟨_, rfl, ?_⟩
          refine rx_cmp rfl ?_
          refine ⟨_, rfl, ?_⟩
          refine ⟨(fun s2 : ((List Int)) => [.own true ((wLst K yInt) s2), .val ((yLst K yStr) _law_names_here), .val ((yDct (κ := Str) yInt) _law_held), .own false ((wLst K (yPr K yStr yInt)) s1.2), .any, .any]), _, (s1.1), _, rfl, by walk_at "subc", fun _ => ?_, fun r4 => ?_⟩
          · refine wt_b ?_
            refine wx_op ?_
            refine wx_call ?_
            refine wa_io rfl ?_
            refine wa_cons ?_
            refine wx_int ?_
            refine ⟨_, rfl, ?_⟩
            refine wa_nil ?_
            refine rc_call _ _ _ ⟨s1.1, (12 : Int), rfl, rfl⟩ ⟨⟨_, rfl⟩, rfl, trivial⟩ (show List.Nodup ([0] : List Nat) by decide) rfl (.inr fun _ z => by first | exact noerr_ne z | exact (nomatch z)) fun r3 _ => ?_
            refine ⟨_, rfl, ?_⟩
            refine wx_int ?_
            refine ⟨_, rfl, ?_⟩
            refine rx_cmp rfl ?_
            refine ⟨_, rfl, ?_⟩
            exact ⟨_, rfl, by walk_at "subc"⟩
          exact ⟨_, rfl, by walk_at "subc"⟩
        refine ⟨_, _, rfl, ?_, ?_⟩
        · refine ws_seq ?_
          refine ws_ctx (Γ' := [.own true ((wLst K yInt) r5.2), .val ((yLst K yStr) _law_names_here), .val ((yDct (κ := Str) yInt) _law_held), .own false ((wLst K (yPr K yStr yInt)) s1.2), .any, .any]) rfl ?_
          refine ws_setL yStr ?_
          refine wx_op ?_
          refine wx_var rfl ?_
          refine ⟨_, rfl, ?_⟩
          refine wx_call ?_
          refine wa_io rfl ?_
          refine wa_cons ?_
          refine wx_cb ?_
          refine wa_cons ?_
          refine wx_var rfl ?_
          refine ⟨_, rfl, ?_⟩
          refine wa_nil ?_
          refine rc_lenSq (pLst K) ?_
          rw [List.length_map]
          refine ⟨_, rfl, ?_⟩
          refine wa_nil ?_
          refine rc_call _ _ _ ⟨r5.2, (_law_names_here.length : Int), rfl, rfl⟩ ⟨⟨_, rfl⟩, rfl, trivial⟩ (show List.Nodup ([0] : List Nat) by decide) rfl (.inr fun _ z => by first | exact noerr_ne z | exact (nomatch z)) fun r6 _ => ?_
          refine ⟨_, rfl, ?_⟩
          refine rx_ixLp (t := yStr) (xs := _law_names_here) rfl fun r7 => ?_
          refine ⟨r7, _, rfl, show 4 < 6 by decide, rfl, fun _law_name => ?_⟩
          refine ws_ctx (Γ' := [.own true ((wLst K yInt) r6.2), .val ((yLst K yStr) _law_names_here), .val ((yDct (κ := Str) yInt) _law_held), .own false ((wLst K (yPr K yStr yInt)) s1.2), .val (yStr _law_name), .any]) rfl ?_
          refine ws_append (yPr K yStr yInt) (xs0 := s1.2) rfl ?_
          refine wx_tup (K := K) ?_
          refine wa_cons ?_
          refine wx_var rfl ?_
          refine ⟨_, rfl, ?_⟩
          refine wa_cons ?_
          refine wx_call ?_
          refine wa_io rfl ?_
          refine wa_cons ?_
          refine wx_int ?_
          refine ⟨_, rfl, ?_⟩
          refine wa_nil ?_
          refine rc_call _ _ _ ⟨r6.2, (2 : Int), rfl, rfl⟩ ⟨⟨_, rfl⟩, rfl, trivial⟩ (show List.Nodup ([0] : List Nat) by decide) rfl (.inr fun _ z => by first | exact noerr_ne z | exact (nomatch z)) fun r8 _ => ?_
          refine ⟨_, rfl, ?_⟩
          refine wa_nil ?_
          refine ⟨[yStr _law_name, yInt r8.1], rfl, show 2 ≤ 1000 by decide, ?_⟩
          refine ⟨_, s1.2, (_law_name, r8.1), _, rfl, rfl, rfl, fun z2 => ?_⟩
          exact ⟨_, rfl, by walk_at "subc"⟩
        · refine ws_next ?_
          exact ⟨_, rfl, by walk_at "subc"⟩
      intro s4
      refine ws_seq ?_
      refine ws_ctx (Γ' := [.own true ((wLst K yInt) s4.1), .val ((yLst K yStr) _law_names_here), .val ((yDct (κ := Str) yInt) _law_held), .own false ((wLst K (yPr K yStr yInt)) s4.2), .any, .any]) rfl ?_
      refine ws_blk (fun s5 : ((List (Str × Int))) => [.own true ((wLst K yInt) s4.1), .val ((yLst K yStr) _law_names_here), .val ((yDct (κ := Str) yInt) _law_held), .own false ((wLst K (yPr K yStr yInt)) s5), .any, .any]) rfl ?_ ?_
      · refine ws_if ?_
        refine wt_and (decide ((((s4.2.filter fun q2 => (decide ((dgetD _law_held q2.1 q2.2) = q2.2))).map fun q2 => q2).length : Int) = (0 : Int))) ?_
        refine wt_b ?_
        refine wx_op ?_
        refine wx_peek ?_
        refine wx_cb ?_
        refine wa_cons ?_
        refine wx_var rfl ?_
        refine ⟨_, rfl, ?_⟩
        refine wa_nil ?_
        refine rc_lenSq (pLst K) ?_
        rw [List.length_map]
        refine ⟨_, rfl, imm_int, ?_⟩
        refine ⟨_, rfl, ?_⟩
        refine wx_int ?_
        refine ⟨_, rfl, ?_⟩
        refine rx_cmp rfl ?_
        refine ⟨_, rfl, ?_⟩
        refine ⟨fun _ => ?_, ?_⟩
        · refine wt_b ?_
          refine wx_op ?_
          refine wx_peek ?_
          refine wx_cb ?_
          refine wa_cons ?_
          refine wx_fz ?_
          refine wx_lc (K := K) (yPr K yStr yInt) (yPr K yStr yInt) (fun q2 => (decide ((dgetD _law_held q2.1 q2.2) = q2.2))) (fun q2 => q2) (gk_name (by decide)) ?_
          refine wi_list ?_
          refine wx_var rfl ?_
          refine ⟨_, rfl, ?_⟩
          refine ⟨s4.2, rfl, fun q2 => ?_, ?_⟩
          · refine wg_ctx (Γ' := [.val ((yLst K yInt) s4.1), .val ((yLst K yStr) _law_names_here), .val ((yDct (κ := Str) yInt) _law_held), .val ((yLst K (yPr K yStr yInt)) s4.2), .any, .any]) rfl ?_
            refine wg_name (show 5 < 6 by decide) ?_
            refine wt_b ?_
            refine wx_op ?_
            refine wx_dget2 (t := yInt) (tk := yStr) ?_
            refine wx_var rfl ?_
            refine ⟨_law_held, rfl, ?_⟩
            refine wx_op ?_
            refine wx_var rfl ?_
            refine ⟨_, rfl, ?_⟩
            refine wx_int ?_
            refine ⟨_, rfl, ?_⟩
            refine rx_ixT rfl ?_
            refine ⟨_, rfl, ?_⟩
            refine wx_op ?_
            refine wx_var rfl ?_
            refine ⟨_, rfl, ?_⟩
            refine wx_int ?_
            refine ⟨_, rfl, ?_⟩
            refine rx_ixT rfl ?_
            refine ⟨_, rfl, ?_⟩
            refine ⟨_, rfl, ?_⟩
            refine wx_op ?_
            refine wx_var rfl ?_
            refine ⟨_, rfl, ?_⟩
            refine wx_int ?_
            refine ⟨_, rfl, ?_⟩
            refine rx_ixT rfl ?_
            refine ⟨_, rfl, ?_⟩
            refine rx_eq ?_
            refine ⟨_, rfl, ?_⟩
            refine ⟨rfl, fun _ => ?_⟩
            refine wx_var rfl ?_
            exact rfl
          refine ⟨_, rfl, ?_⟩
          refine ⟨_, rfl, ?_⟩
          refine wa_nil ?_
          refine rc_lenSq (pLst K) ?_
          rw [List.length_map]
          refine ⟨_, rfl, imm_int, ?_⟩
          refine ⟨_, rfl, ?_⟩
          refine wx_int ?_
          refine ⟨_, rfl, ?_⟩
          refine rx_eq ?_
          refine ⟨_, rfl, ?_⟩
          exact ⟨rfl, rfl, rfl⟩
        refine ⟨_, _, rfl, ?_, ?_⟩
        · refine ws_ctx (Γ' := [.own true ((wLst K yInt) s4.1), .val ((yLst K yStr) _law_names_here), .val ((yDct (κ := Str) yInt) _law_held), .own false ((wLst K (yPr K yStr yInt)) s4.2), .any, .any]) rfl ?_
          refine ws_lset (K := K) (yPr K yStr yInt) ?_
          refine wx_tup (K := K) ?_
          refine wa_cons ?_
          refine wx_op ?_
          refine wx_peek ?_
          refine wx_op ?_
          refine wx_var rfl ?_
          refine ⟨_, rfl, ?_⟩
          refine wx_int ?_
          refine ⟨_, rfl, ?_⟩
          refine rx_ixLp (t := (yPr K yStr yInt)) (xs := s4.2) rfl fun r9 => ?_
          refine ⟨_, rfl, (imm_pr imm_str imm_int), ?_⟩
          refine ⟨_, rfl, ?_⟩
          refine wx_int ?_
          refine ⟨_, rfl, ?_⟩
          refine rx_ixT rfl ?_
          refine ⟨_, rfl, ?_⟩
          refine wa_cons ?_
          refine wx_op ?_
          refine wx_int ?_
          refine ⟨_, rfl, ?_⟩
          refine wx_op ?_
          refine wx_peek ?_
          refine wx_op ?_
          refine wx_var rfl ?_
          refine ⟨_, rfl, ?_⟩
          refine wx_int ?_
          refine ⟨_, rfl, ?_⟩
          refine rx_ixLp (t := (yPr K yStr yInt)) (xs := s4.2) rfl fun r10 => ?_
          refine ⟨_, rfl, (imm_pr imm_str imm_int), ?_⟩
          refine ⟨_, rfl, ?_⟩
          refine wx_int ?_
          refine ⟨_, rfl, ?_⟩
          refine rx_ixT rfl ?_
          refine ⟨_, rfl, ?_⟩
          refine rx_ari rfl ?_
          refine ⟨_, rfl, ?_⟩
          refine wa_nil ?_
          refine ⟨[yStr r9.1, yInt ((1 : Int) - r10.2)], rfl, show 2 ≤ 1000 by decide, ?_⟩
          refine ⟨(r9.1, ((1 : Int) - r10.2)), rfl, ⟨_, _, rfl⟩, ?_⟩
          refine wx_int ?_
          refine ⟨_, s4.2, (0 : Int), _, rfl, rfl, rfl, fun z3 => ?_⟩
          exact ⟨_, rfl, by walk_at "subc"⟩
        · refine ws_next ?_
          exact ⟨_, rfl, by walk_at "subc"⟩
      intro s5
      refine ws_ctx (Γ' := [.own true ((wLst K yInt) s4.1), .val ((yLst K yStr) _law_names_here), .val ((yDct (κ := Str) yInt) _law_held), .own false ((wLst K (yPr K yStr yInt)) s5), .any, .any]) rfl ?_
      refine ws_frz 3 rfl ?_
      refine ws_ret ?_
      refine wx_cb ?_
      refine wa_cons ?_
      refine wx_var rfl ?_
      refine ⟨_, rfl, ?_⟩
      refine wa_nil ?_
      refine rc_tuple (pLst K) ?_
      exact ⟨_, rfl, rfl, (by first | trivial | exact ⟨rfl, trivial⟩ | exact ⟨rfl, rfl, trivial⟩)⟩
def pre__law_theory (K : PySem.W.Frag) (A : Nat → Addr) : List Ar → Cl → Prop := fun as d => ∃ (_law_source_here : (List Int)) (_law_k : Int) (_law_common : (List (Str × Int))), as = [.io ((wLst K yInt) _law_source_here), .val (yInt _law_k), .val ((yDct (κ := Str) yInt) _law_common)] ∧ d = ⟨(((List Str) × (List (List (Str × Int)))) × (List Int)), f__law_theory _law_source_here _law_k _law_common, fun r => .val ((yPr K (yTup K yStr) (yTup K (yTup K (yPr K yStr yInt)))) r.1), fun r => [(wLst K yInt) r.2]⟩
theorem ok__law_theory (T : Txt K mg A D) : FnOk P w K mg base CX0 3 (A 38) (D 38) ["_law_source_here", "_law_k", "_law_common"] (spM A (pre__law_theory K A)) := by
  refine T.F__law_theory.ok sc__law_theory (fun vs H Q E h => ?_) (fun cdv A' outer s H vs Q E hr h => ?_)
  · exact spM_len h fun as d hp => by obtain ⟨_law_source_here, _law_k, _law_common, rfl, rfl⟩ := hp; rfl
  · have hu := hu_of hr
    have G__law_some : FnOk P w K mg base CX0 2 (A 33) (D 33) ["_law_source_here", "_law_names_here", "_law_most"] (spM A (pre__law_some K A)) := ok__law_some T
    have G__law_draw : FnOk P w K mg base CX0 1 (A 32) (D 32) ["_law_source_here", "_law_limit"] (spM A (pre__law_draw K A)) := ok__law_draw T
    have G__law_clause : FnOk P w K mg base CX0 2 (A 37) (D 37) ["_law_source_here", "_law_names_here", "_law_held"] (spM A (pre__law_clause K A)) := ok__law_clause T
    refine ⟨_, (pss_cons (ps_set (i := 3) sc__law_theory.nd rfl (Or.inl rfl) (pe_lst (pa_cons pe_str (pa_cons pe_str (pa_cons pe_str (pa_cons pe_str (pa_cons pe_str pa_nil)))))))
      (pss_cons (ps_set (i := 4) sc__law_theory.nd rfl (Or.inl rfl) (pe_callB (id := "min") (call_min2 rfl) (by rfl) T.z_min (by decide +kernel) (pa_cons (pv 1) (pa_cons pe_int pa_nil))))
      (pss_cons (ps_set (i := 5) sc__law_theory.nd rfl (Or.inr rfl) (pe_call G__law_some (hr.mono (by decide)) rfl T.g__law_some T.F__law_some.kp T.b__law_some .nil pass0 (pa_cons (pv 0) (pa_cons (pe_slice (sK_list (K := K) rfl) (pv 3) (po_some (pv 4)) (po_some (pe_op op_add (pv 4) pe_int))) (pa_cons pe_int pa_nil)))))
      (pss_cons (ps_if (PW.pt (pw_and (pt_cmpR (oP_nin (K := K) rfl hr.units) pe_str (pv 5) rfl) (pw_and1 (pt_cmpR op_lt (pe_call G__law_draw (hr.mono (by decide)) rfl T.g__law_draw T.F__law_draw.kp T.b__law_draw .nil pass0 (pa_cons (pv 0) (pa_cons pe_int pa_nil))) (pe_op op_mul pe_int (pe_op op_sub pe_int (pe_op op_mod (pe_callTy (T := "int") call_int1 (by rfl) T.z_int (by decide +kernel) (pa_cons (pv 1) pa_nil)) pe_int))) (nomark _)))))
        (pss_one (ps_set (i := 5) sc__law_theory.nd rfl (Or.inr rfl) (pe_op (op_catS (K := K) rfl) (pe_lst (pa_cons pe_str pa_nil)) (pv 5))))
        pss_nil)
      (pss_cons (ps_set (i := 6) sc__law_theory.nd rfl (Or.inr rfl) (pv 2))
      (pss_cons (ps_if (PW.pt (pw_and (pt_cmpR op_eq (pe_callB (id := "len") call_lenDR (by rfl) T.z_len (by decide +kernel) (pa_cons (pv 2) pa_nil)) pe_int (nomark _)) (pw_and1 (pt_cmpR op_gt (pe_call G__law_draw (hr.mono (by decide)) rfl T.g__law_draw T.F__law_draw.kp T.b__law_draw .nil pass0 (pa_cons (pv 0) (pa_cons pe_int pa_nil))) pe_int (nomark _)))))
        (pss_cons (ps_set (i := 6) sc__law_theory.nd rfl (Or.inr rfl) pe_dnewK)
        (pss_one (ps_for PassesOwn.never rfl (iK_list (K := K) rfl (pv 5)) (pg_name (i := 7) sc__law_theory.nd rfl (Or.inl rfl))
          (pss_one (ps_dput hu (pv 6) (pv 7) (pe_call G__law_draw (hr.mono (by decide)) rfl T.g__law_draw T.F__law_draw.kp T.b__law_draw .nil pass0 (pa_cons (pv 0) (pa_cons pe_int pa_nil))) rfl)))))
        pss_nil)
      (pss_cons (ps_setLc (i := 8) (own := [("_law_j", 9)]) (g := gName 9) (tt := tYes) rfl sc__law_theory.nd rfl rfl (sw_true rfl rfl rfl (by decide +kernel))  (pi_range1 rfl T.z_range (pa_cons (pe_call G__law_draw (hr.mono (by decide)) rfl T.g__law_draw T.F__law_draw.kp T.b__law_draw .nil pass0 (pa_cons (pv 0) (pa_cons pe_int pa_nil))) pa_nil)) (blkOk_by (N := N__law_theory) (sc := defScope (topS 38)) (by decide +kernel)) (fun _ _ _ _ _ => (pg_name (i := 9) sc__law_theory.nd rfl (Or.inl rfl))) (fun _ _ _ _ _ => pts_nil) (fun _ _ _ _ _ => (pe_call G__law_clause (hr.mono (by decide)) rfl T.g__law_clause T.F__law_clause.kp T.b__law_clause .nil pass0 (pa_cons (pv 0) (pa_cons (pv 5) (pa_cons (pv 6) pa_nil))))))
      (pss_one (ps_ret (pe_tup (pa_cons (pe_callTy (T := "tuple") (cK_tuple (K := K) rfl) (by rfl) T.z_tuple (by decide +kernel) (pa_cons (pv 5) pa_nil)) (pa_cons (pe_callTy (T := "tuple") (cK_tuple (K := K) rfl) (by rfl) T.z_tuple (by decide +kernel) (pa_cons (pv 8) pa_nil)) pa_nil)))))))))))), ?_⟩
    refine fn_run0 h (fun as d hp => ?_) fun as d hp => ?_
    · obtain ⟨_law_source_here, _law_k, _law_common, rfl, rfl⟩ := hp; simp
    · obtain ⟨_law_source_here, _law_k, _law_common, rfl, rfl⟩ := hp
      refine ⟨_, (show f__law_theory _law_source_here _law_k _law_common = Res.noerr _ from rfl), ?_⟩
      refine ws_seq ?_
      refine ws_ctx (Γ' := [.own true ((wLst K yInt) _law_source_here), .val (yInt _law_k), .val ((yDct (κ := Str) yInt) _law_common), .any, .any, .any, .any, .any, .any, .any]) rfl ?_
      refine ws_setL (yLst K yStr) ?_
      refine wx_fz ?_
      refine wx_lst (K := K) ?_
      refine wa_cons ?_
      refine wx_str ?_
      refine ⟨_, rfl, ?_⟩
      refine wa_cons ?_
      refine wx_str ?_
      refine ⟨_, rfl, ?_⟩
      refine wa_cons ?_
      refine wx_str ?_
      refine ⟨_, rfl, ?_⟩
      refine wa_cons ?_
      refine wx_str ?_
      refine ⟨_, rfl, ?_⟩
      refine wa_cons ?_
      refine wx_str ?_
      refine ⟨_, rfl, ?_⟩
      refine wa_nil ?_
      refine ⟨[yStr ("a" : Str), yStr ("a1" : Str), yStr ("b" : Str), yStr ("c.d" : Str), yStr ("d" : Str)], rfl, show 5 ≤ 1000 by decide, ?_⟩
      refine ⟨_, rfl, ?_⟩
      refine ⟨([("a" : Str), ("a1" : Str), ("b" : Str), ("c.d" : Str), ("d" : Str)] : List Str), _, rfl, show 3 < 10 by decide, rfl, fun _law_pool => ?_⟩
      refine ws_seq ?_
      refine ws_ctx (Γ' := [.own true ((wLst K yInt) _law_source_here), .val (yInt _law_k), .val ((yDct (κ := Str) yInt) _law_common), .val ((yLst K yStr) _law_pool), .any, .any, .any, .any, .any, .any]) rfl ?_
      refine ws_setL yInt ?_
      refine wx_cb ?_
      refine wa_cons ?_
      refine wx_var rfl ?_
      refine ⟨_, rfl, ?_⟩
      refine wa_cons ?_
      refine wx_int ?_
      refine ⟨_, rfl, ?_⟩
      refine wa_nil ?_
      refine rc_min2 ?_
      refine ⟨(min _law_k (2 : Int)), _, rfl, show 4 < 10 by decide, rfl, fun _law_at => ?_⟩
      refine ws_seq ?_
      refine ws_ctx (Γ' := [.own true ((wLst K yInt) _law_source_here), .val (yInt _law_k), .val ((yDct (κ := Str) yInt) _law_common), .val ((yLst K yStr) _law_pool), .val (yInt _law_at), .any, .any, .any, .any, .any]) rfl ?_
      refine ws_setL (yLst K yStr) ?_
      refine wx_fz ?_
      refine wx_call ?_
      refine wa_io rfl ?_
      refine wa_cons ?_
      refine wx_fz ?_
      refine wx_slL ?_
      refine wx_var rfl ?_
      refine ⟨_, rfl, ?_⟩
      refine wo_some ?_
      refine wx_var rfl ?_
      refine ⟨_, rfl, ?_⟩
      refine wo_some ?_
      refine wx_op ?_
      refine wx_var rfl ?_
      refine ⟨_, rfl, ?_⟩
      refine wx_int ?_
      refine ⟨_, rfl, ?_⟩
      refine rx_ari rfl ?_
      refine ⟨_, rfl, ?_⟩
      rw [pcut_map]
      refine ⟨_, rfl, ?_⟩
      refine ⟨_, rfl, ?_⟩
      refine wa_cons ?_
      refine wx_int ?_
      refine ⟨_, rfl, ?_⟩
      refine wa_nil ?_
      refine rc_call _ _ _ ⟨_law_source_here, (pcut _law_pool (some _law_at) (some (_law_at + (3 : Int)))), (3 : Int), rfl, rfl⟩ ⟨⟨_, rfl⟩, rfl, rfl, trivial⟩ (show List.Nodup ([0] : List Nat) by decide) rfl (.inr fun _ z => by first | exact noerr_ne z | exact (nomatch z)) fun r1 _ => ?_
      refine ⟨_, rfl, ?_⟩
      refine ⟨r1.1, _, rfl, show 5 < 10 by decide, rfl, fun _law_names_here => ?_⟩
      refine ws_seq ?_
      refine ws_ctx (Γ' := [.own true ((wLst K yInt) r1.2), .val (yInt _law_k), .val ((yDct (κ := Str) yInt) _law_common), .val ((yLst K yStr) _law_pool), .val (yInt _law_at), .val ((yLst K yStr) _law_names_here), .any, .any, .any, .any]) rfl ?_
      refine ws_blk (fun s2 : ((List Int) × (List Str)) => [.own true ((wLst K yInt) s2.1), .val (yInt _law_k), .val ((yDct (κ := Str) yInt) _law_common), .val ((yLst K yStr) _law_pool), .val (yInt _law_at), .val ((yLst K yStr) s2.2), .any, .any, .any, .any]) rfl ?_ ?_
      · refine ws_if ?_
        refine wt_andM (μ := ((List Int))) ?_
        refine wt_b ?_
        refine wx_op ?_
        refine wx_str ?_
        refine ⟨_, rfl, ?_⟩
        refine wx_var rfl ?_
        refine ⟨_, rfl, ?_⟩
        refine rx_ninD (K := K) (t := yStr) (x := ("a" : Str)) (ys := _law_names_here) (pLst K) (Nat.le_of_ble_eq_true rfl) ?_
        refine ⟨_, rfl, ?_⟩
        refine ⟨(fun s1 : ((List Int)) => [.own true ((wLst K yInt) s1), .val (yInt _law_k), .val ((yDct (κ := Str) yInt) _law_common), .val ((yLst K yStr) _law_pool), .val (yInt _law_at), .val ((yLst K yStr) _law_names_here), .any, .any, .any, .any]), _, (r1.2), _, rfl, by walk_at "subc", fun _ => ?_, fun r3 => ?_⟩
        · refine wt_b ?_
          refine wx_op ?_
          refine wx_call ?_
          refine wa_io rfl ?_
          refine wa_cons ?_
          refine wx_int ?_
          refine ⟨_, rfl, ?_⟩
          refine wa_nil ?_
          refine rc_call _ _ _ ⟨r1.2, (3 : Int), rfl, rfl⟩ ⟨⟨_, rfl⟩, rfl, trivial⟩ (show List.Nodup ([0] : List Nat) by decide) rfl (.inr fun _ z => by first | exact noerr_ne z | exact (nomatch z)) fun r2 _ => ?_
          refine ⟨_, rfl, ?_⟩
          refine wx_op ?_
          refine wx_int ?_
          refine ⟨_, rfl, ?_⟩
          refine wx_op ?_
          refine wx_int ?_
          refine ⟨_, rfl, ?_⟩
          refine wx_op ?_
          refine wx_cb ?_
          refine wa_cons ?_
          refine wx_var rfl ?_
          refine ⟨_, rfl, ?_⟩
          refine wa_nil ?_
          refine rc_int1 ?_
          refine ⟨_, rfl, ?_⟩
          refine wx_int ?_
          refine ⟨_, rfl, ?_⟩
          refine rx_it (f := fun i j => i % j) (by decide) rfl ?_
          refine ⟨_, rfl, ?_⟩
          refine rx_ari rfl ?_
          refine ⟨_, rfl, ?_⟩
          refine rx_it (f := fun i j => i * j) (.inl (by decide)) rfl ?_
          refine ⟨_, rfl, ?_⟩
          refine rx_cmp rfl ?_
          refine ⟨_, rfl, ?_⟩
          exact ⟨_, rfl, by walk_at "subc"⟩
        refine ⟨_, _, rfl, ?_, ?_⟩
        · refine ws_ctx (Γ' := [.own true ((wLst K yInt) r3.2), .val (yInt _law_k), .val ((yDct (κ := Str) yInt) _law_common), .val ((yLst K yStr) _law_pool), .val (yInt _law_at), .val ((yLst K yStr) _law_names_here), .any, .any, .any, .any]) rfl ?_
          refine ws_setL (yLst K yStr) ?_
          refine wx_fz ?_
          refine wx_op ?_
          refine wx_fz ?_
          refine wx_lst (K := K) ?_
          refine wa_cons ?_
          refine wx_str ?_
          refine ⟨_, rfl, ?_⟩
          refine wa_nil ?_
          refine ⟨[yStr ("a" : Str)], rfl, show 1 ≤ 1000 by decide, ?_⟩
          refine ⟨_, rfl, ?_⟩
          refine ⟨_, rfl, ?_⟩
          refine wx_var rfl ?_
          refine ⟨_, rfl, ?_⟩
          refine rx_catL (t := yStr) (xs := ([("a" : Str)] : List Str)) (ys := _law_names_here) rfl ?_
          refine ⟨_, rfl, ?_⟩
          refine ⟨(([("a" : Str)] : List Str) ++ _law_names_here), _, rfl, show 5 < 10 by decide, rfl, fun _law_names_here => ?_⟩
          exact ⟨_, rfl, by walk_at "subc"⟩
        · refine ws_next ?_
          exact ⟨_, rfl, by walk_at "subc"⟩
      intro s2
      refine ws_seq ?_
      refine ws_ctx (Γ' := [.own true ((wLst K yInt) s2.1), .val (yInt _law_k), .val ((yDct (κ := Str) yInt) _law_common), .val ((yLst K yStr) _law_pool), .val (yInt _law_at), .val ((yLst K yStr) s2.2), .any, .any, .any, .any]) rfl ?_
      refine ws_setL (yDct (κ := Str) yInt) ?_
      refine wx_var rfl ?_
      refine ⟨_law_common, _, rfl, show 6 < 10 by decide, rfl, fun _law_held => ?_⟩
      refine ws_seq ?_
      refine ws_ctx (Γ' := [.own true ((wLst K yInt) s2.1), .val (yInt _law_k), .val ((yDct (κ := Str) yInt) _law_common), .val ((yLst K yStr) _law_pool), .val (yInt _law_at), .val ((yLst K yStr) s2.2), .val ((yDct (κ := Str) yInt) _law_held), .any, .any, .any]) rfl ?_
      refine ws_blkZ (fun s5 : ((List Int) × (List (Str × Int))) => [.own true ((wLst K yInt) s5.1), .val (yInt _law_k), .val ((yDct (κ := Str) yInt) _law_common), .val ((yLst K yStr) _law_pool), .val (yInt _law_at), .val ((yLst K yStr) s2.2), .val ((yDct (κ := Str) yInt) s5.2), .any, .any, .any]) rfl ?_ ?_
      · refine ws_if ?_
        refine wt_andM (μ := ((List Int))) ?_
        refine wt_b ?_
        refine wx_op ?_
        refine wx_cb ?_
        refine wa_cons ?_
        refine wx_var rfl ?_
        refine ⟨_, rfl, ?_⟩
        refine wa_nil ?_
        refine rc_lenD ?_
        rw [kpl_len]
        refine ⟨_, rfl, ?_⟩
        refine wx_int ?_
        refine ⟨_, rfl, ?_⟩
        refine rx_eq ?_
        refine ⟨_, rfl, ?_⟩
        refine ⟨(fun s3 : ((List Int)) => [.own true ((wLst K yInt) s3), .val (yInt _law_k), .val ((yDct (κ := Str) yInt) _law_common), .val ((yLst K yStr) _law_pool), .val (yInt _law_at), .val ((yLst K yStr) s2.2), .val ((yDct (κ := Str) yInt) _law_held), .any, .any, .any]), _, (s2.1), _, rfl, by walk_at "subc", fun _ => ?_, fun r6 => ?_⟩
        · refine wt_b ?_
          refine wx_op ?_
          refine wx_call ?_
          refine wa_io rfl ?_
          refine wa_cons ?_
          refine wx_int ?_
          refine ⟨_, rfl, ?_⟩
          refine wa_nil ?_
          refine rc_call _ _ _ ⟨s2.1, (6 : Int), rfl, rfl⟩ ⟨⟨_, rfl⟩, rfl, trivial⟩ (show List.Nodup ([0] : List Nat) by decide) rfl (.inr fun _ z => by first | exact noerr_ne z | exact (nomatch z)) fun r5 _ => ?_
          refine ⟨_, rfl, ?_⟩
          refine wx_int ?_
          refine ⟨_, rfl, ?_⟩
          refine rx_cmp rfl ?_
          refine ⟨_, rfl, ?_⟩
          exact ⟨_, rfl, by walk_at "subc"⟩
        refine ⟨_, _, rfl, ?_, ?_⟩
        · refine ws_seq ?_
          refine ws_ctx (Γ' := [.own true ((wLst K yInt) r6.2), .val (yInt _law_k), .val ((yDct (κ := Str) yInt) _law_common), .val ((yLst K yStr) _law_pool), .val (yInt _law_at), .val ((yLst K yStr) s2.2), .val ((yDct (κ := Str) yInt) _law_held), .any, .any, .any]) rfl ?_
          refine ws_setO (wDct (κ := Str) yInt) ?_
          refine wx_dnew ?_
          refine ⟨([] : (List (Str × Int))), _, rfl, show 6 < 10 by decide, rfl, fun _law_held => ?_⟩
          refine ws_ctx (Γ' := [.own true ((wLst K yInt) r6.2), .val (yInt _law_k), .val ((yDct (κ := Str) yInt) _law_common), .val ((yLst K yStr) _law_pool), .val (yInt _law_at), .val ((yLst K yStr) s2.2), .own false ((wDct (κ := Str) yInt) _law_held), .any, .any, .any]) rfl ?_
          refine ws_for (μ := ((List Int) × (List (Str × Int)))) yStr ?_
          refine wi_list ?_
          refine wx_var rfl ?_
          refine ⟨_, rfl, ?_⟩
          refine ⟨_, (fun s4 : ((List Int) × (List (Str × Int))) => [.own true ((wLst K yInt) s4.1), .val (yInt _law_k), .val ((yDct (κ := Str) yInt) _law_common), .val ((yLst K yStr) _law_pool), .val (yInt _law_at), .val ((yLst K yStr) s2.2), .own false ((wDct (κ := Str) yInt) s4.2), .any, .any, .any]), s2.2, _, _, rfl, rfl, by walk_at "subc", fun s4 q1 => ?_, fun s4 => ?_⟩
          · refine wg_name (show 7 < 10 by decide) ?_
            refine ws_ctx (Γ' := [.own true ((wLst K yInt) s4.1), .val (yInt _law_k), .val ((yDct (κ := Str) yInt) _law_common), .val ((yLst K yStr) _law_pool), .val (yInt _law_at), .val ((yLst K yStr) s2.2), .own false ((wDct (κ := Str) yInt) s4.2), .val (yStr q1), .any, .any]) rfl ?_
            refine ws_dput (t := yInt) (tk := yStr) ?_
            refine wx_call ?_
            refine wa_io rfl ?_
            refine wa_cons ?_
            refine wx_int ?_
            refine ⟨_, rfl, ?_⟩
            refine wa_nil ?_
            refine rc_call _ _ _ ⟨s4.1, (2 : Int), rfl, rfl⟩ ⟨⟨_, rfl⟩, rfl, trivial⟩ (show List.Nodup ([0] : List Nat) by decide) rfl (.inr fun _ z => by first | exact noerr_ne z | exact (nomatch z)) fun r7 _ => ?_
            refine ⟨r7.1, rfl, ⟨_, _, rfl⟩, ?_⟩
            refine wx_var rfl ?_
            refine ⟨_, q1, _, s4.2, rfl, rfl, rfl, fun d1 => ?_⟩
            exact ⟨_, rfl, by walk_at "subc"⟩
          exact ⟨_, rfl, .inr ⟨6, _, _, rfl, by walk_at "subc"⟩⟩
        · refine ws_next ?_
          exact ⟨_, rfl, .inl (by walk_at "subc")⟩
      intro s5
      refine ws_seq ?_
      refine ws_ctx (Γ' := [.own true ((wLst K yInt) s5.1), .val (yInt _law_k), .val ((yDct (κ := Str) yInt) _law_common), .val ((yLst K yStr) _law_pool), .val (yInt _law_at), .val ((yLst K yStr) s2.2), .val ((yDct (κ := Str) yInt) s5.2), .any, .any, .any]) rfl ?_
      refine ws_setL (yLst K (yTup K (yPr K yStr yInt))) ?_
      refine wx_fz ?_
      refine wx_lcM (K := K) (μ := ((List Int))) yInt (yTup K (yPr K yStr yInt)) (gk_name (by decide)) ?_
      refine wi_rng1 ?_
      refine wa_cons ?_
      refine wx_call ?_
      refine wa_io rfl ?_
      refine wa_cons ?_
      refine wx_int ?_
      refine ⟨_, rfl, ?_⟩
      refine wa_nil ?_
      refine rc_call _ _ _ ⟨s5.1, (7 : Int), rfl, rfl⟩ ⟨⟨_, rfl⟩, rfl, trivial⟩ (show List.Nodup ([0] : List Nat) by decide) rfl (.inr fun _ z => by first | exact noerr_ne z | exact (nomatch z)) fun r8 _ => ?_
      refine ⟨_, rfl, ?_⟩
      refine wa_nil ?_
      refine ⟨_, _, rfl, rfl, ?_⟩
      refine ⟨_, (fun s6 : ((List Int)) => [.own true ((wLst K yInt) s6), .val (yInt _law_k), .val ((yDct (κ := Str) yInt) _law_common), .val ((yLst K yStr) _law_pool), .val (yInt _law_at), .val ((yLst K yStr) s2.2), .val ((yDct (κ := Str) yInt) s5.2), .any, .any, .any]), (rng 0 (r8.1).toNat), _, _, rfl, rfl, by walk_at "subc", fun s7 q2 => ?_, fun r11 => ?_⟩
      · refine wg_ctx (Γ' := [.own true ((wLst K yInt) s7), .val (yInt _law_k), .val ((yDct (κ := Str) yInt) _law_common), .val ((yLst K yStr) _law_pool), .val (yInt _law_at), .val ((yLst K yStr) s2.2), .val ((yDct (κ := Str) yInt) s5.2), .any, .any, .any]) rfl ?_
        refine wg_name (show 9 < 10 by decide) ?_
        refine wt_yes ?_
        refine ⟨_, (s7), (if_pos rfl).symm, by walk_at "subc", ?_⟩
        refine wx_call ?_
        refine wa_io rfl ?_
        refine wa_cons ?_
        refine wx_var rfl ?_
        refine ⟨_, rfl, ?_⟩
        refine wa_cons ?_
        refine wx_var rfl ?_
        refine ⟨_, rfl, ?_⟩
        refine wa_nil ?_
        refine rc_call _ _ _ ⟨s7, s2.2, s5.2, rfl, rfl⟩ ⟨⟨_, rfl⟩, rfl, rfl, trivial⟩ (show List.Nodup ([0] : List Nat) by decide) rfl (.inr fun _ z => by first | exact noerr_ne z | exact (nomatch z)) fun r10 _ => ?_
        exact ⟨_, _, rfl, rfl, by walk_at "subc"⟩
      refine ⟨_, rfl, ?_⟩
      refine ⟨r11.1, _, rfl, show 8 < 10 by decide, rfl, fun _law_clauses_here => ?_⟩
      refine ws_ctx (Γ' := [.own true ((wLst K yInt) r11.2), .val (yInt _law_k), .val ((yDct (κ := Str) yInt) _law_common), .val ((yLst K yStr) _law_pool), .val (yInt _law_at), .val ((yLst K yStr) s2.2), .val ((yDct (κ := Str) yInt) s5.2), .any, .val ((yLst K (yTup K (yPr K yStr yInt))) _law_clauses_here), .any]) rfl ?_
      refine ws_ret ?_
      refine wx_tup (K := K) ?_
      refine wa_cons ?_
      refine wx_cb ?_
      refine wa_cons ?_
      refine wx_var rfl ?_
      refine ⟨_, rfl, ?_⟩
      refine wa_nil ?_
      refine rc_tuple (pLst K) ?_
      refine ⟨_, rfl, ?_⟩
      refine wa_cons ?_
      refine wx_cb ?_
      refine wa_cons ?_
      refine wx_var rfl ?_
      refine ⟨_, rfl, ?_⟩
      refine wa_nil ?_
      refine rc_tuple (pLst K) ?_
      refine ⟨_, rfl, ?_⟩
      refine wa_nil ?_
      refine ⟨[(yTup K yStr) s2.2, (yTup K (yTup K (yPr K yStr yInt))) _law_clauses_here], rfl, show 2 ≤ 1000 by decide, ?_⟩
      exact ⟨_, rfl, rfl, (by first | trivial | exact ⟨rfl, trivial⟩ | exact ⟨rfl, rfl, trivial⟩)⟩
def pre__law_theories (K : PySem.W.Frag) (A : Nat → Addr) : List Ar → Cl → Prop := fun as d => ∃ (_law_script : (List Int)), as = [.val ((yLst K yInt) _law_script)] ∧ d = ⟨((List ((List Str) × (List (List (Str × Int)))))), f__law_theories _law_script, fun r => .val ((yLst K (yPr K (yTup K yStr) (yTup K (yTup K (yPr K yStr yInt))))) r), fun r => []⟩
theorem ok__law_theories (T : Txt K mg A D) : FnOk P w K mg base CX0 4 (A 39) (D 39) ["_law_script"] (spM A (pre__law_theories K A)) := by
  refine T.F__law_theories.ok sc__law_theories (fun vs H Q E h => ?_) (fun cdv A' outer s H vs Q E hr h => ?_)
  · exact spM_len h fun as d hp => by obtain ⟨_law_script, rfl, rfl⟩ := hp; rfl
  · have hu := hu_of hr
    have G__law_from : FnOk P w K mg base CX0 2 (A 31) (D 31) ["_law_script", "_law_k"] (spM A (pre__law_from K A)) := ok__law_from T
    have G__law_draw : FnOk P w K mg base CX0 1 (A 32) (D 32) ["_law_source_here", "_law_limit"] (spM A (pre__law_draw K A)) := ok__law_draw T
    have G__law_theory : FnOk P w K mg base CX0 3 (A 38) (D 38) ["_law_source_here", "_law_k", "_law_common"] (spM A (pre__law_theory K A)) := ok__law_theory T
    refine ⟨_, (pss_cons (ps_set (i := 1) sc__law_theories.nd rfl (Or.inl rfl) (pe_call G__law_from (hr.mono (by decide)) rfl T.g__law_from T.F__law_from.kp T.b__law_from .nil pass0 (pa_cons (pv 0) (pa_cons pe_int pa_nil))))
      (pss_cons (ps_set (i := 2) sc__law_theories.nd rfl (Or.inl rfl) (pe_ix (xK_list (K := K) rfl) (pe_lst (pa_cons pe_int (pa_cons pe_int (pa_cons pe_int (pa_cons pe_int (pa_cons pe_int (pa_cons pe_int (pa_cons pe_int (pa_cons pe_int pa_nil))))))))) (pe_call G__law_draw (hr.mono (by decide)) rfl T.g__law_draw T.F__law_draw.kp T.b__law_draw .nil pass0 (pa_cons (pv 1) (pa_cons pe_int pa_nil))) (fun _ _ => rfl)))
      (pss_cons (ps_set (i := 3) sc__law_theories.nd rfl (Or.inr rfl) pe_dnewK)
      (pss_cons (ps_if (pt_cmpR op_eq (pe_call G__law_draw (hr.mono (by decide)) rfl T.g__law_draw T.F__law_draw.kp T.b__law_draw .nil pass0 (pa_cons (pv 1) (pa_cons pe_int pa_nil))) pe_int (nomark _))
        (pss_one (ps_for PassesOwn.never rfl (iK_list (K := K) rfl (pe_lst (pa_cons pe_str (pa_cons pe_str (pa_cons pe_str (pa_cons pe_str (pa_cons pe_str pa_nil))))))) (pg_name (i := 4) sc__law_theories.nd rfl (Or.inl rfl))
          (pss_one (ps_dput hu (pv 3) (pv 4) (pe_call G__law_draw (hr.mono (by decide)) rfl T.g__law_draw T.F__law_draw.kp T.b__law_draw .nil pass0 (pa_cons (pv 1) (pa_cons pe_int pa_nil))) rfl))))
        pss_nil)
      (pss_one (ps_ret (pe_lc (own := [("_law_k", 5)]) (g := gName 5) (tt := tYes) rfl sc__law_theories.nd (pi_range1 rfl T.z_range (pa_cons (pv 2) pa_nil)) (blkOk_by (N := N__law_theories) (sc := defScope (topS 39)) (by decide +kernel)) (fun _ _ _ _ _ => (pg_name (i := 5) sc__law_theories.nd rfl (Or.inl rfl))) (fun _ _ _ _ _ => pts_nil) (fun _ _ _ _ _ => (pe_call G__law_theory (hr.mono (by decide)) rfl T.g__law_theory T.F__law_theory.kp T.b__law_theory .nil pass0 (pa_cons (pe_call G__law_from (hr.mono (by decide)) rfl T.g__law_from T.F__law_from.kp T.b__law_from .nil pass0 (pa_cons (pv 0) (pa_cons (pe_op op_add pe_int (pv 5)) pa_nil))) (pa_cons (pv 5) (pa_cons (pv 3) pa_nil)))))))))))), ?_⟩
    refine fn_run0 h (fun as d hp => ?_) fun as d hp => ?_
    · obtain ⟨_law_script, rfl, rfl⟩ := hp; simp
    · obtain ⟨_law_script, rfl, rfl⟩ := hp
      refine ⟨_, (show f__law_theories _law_script = Res.noerr _ from rfl), ?_⟩
      refine ws_seq ?_
      refine ws_ctx (Γ' := [.val ((yLst K yInt) _law_script), .any, .any, .any, .any, .any]) rfl ?_
      refine ws_setO (wLst K yInt) ?_
      refine wx_call ?_
      refine wa_cons ?_
      refine wx_var rfl ?_
      refine ⟨_, rfl, ?_⟩
      refine wa_cons ?_
      refine wx_int ?_
      refine ⟨_, rfl, ?_⟩
      refine wa_nil ?_
      refine rc_call _ _ _ ⟨_law_script, (0 : Int), rfl, rfl⟩ ⟨rfl, rfl, trivial⟩ (show List.Nodup ([] : List Nat) by decide) rfl (.inr fun _ z => by first | exact noerr_ne z | exact (nomatch z)) fun r1 _ => ?_
      refine ⟨r1, _, rfl, show 1 < 6 by decide, rfl, fun _law_source_here => ?_⟩
      refine ws_seq ?_
      refine ws_ctx (Γ' := [.val ((yLst K yInt) _law_script), .own false ((wLst K yInt) _law_source_here), .any, .any, .any, .any]) rfl ?_
      refine ws_setL yInt ?_
      refine wx_op ?_
      refine wx_fz ?_
      refine wx_lst (K := K) ?_
      refine wa_cons ?_
      refine wx_int ?_
      refine ⟨_, rfl, ?_⟩
      refine wa_cons ?_
      refine wx_int ?_
      refine ⟨_, rfl, ?_⟩
      refine wa_cons ?_
      refine wx_int ?_
      refine ⟨_, rfl, ?_⟩
      refine wa_cons ?_
      refine wx_int ?_
      refine ⟨_, rfl, ?_⟩
      refine wa_cons ?_
      refine wx_int ?_
      refine ⟨_, rfl, ?_⟩
      refine wa_cons ?_
      refine wx_int ?_
      refine ⟨_, rfl, ?_⟩
      refine wa_cons ?_
      refine wx_int ?_
      refine ⟨_, rfl, ?_⟩
      refine wa_cons ?_
      refine wx_int ?_
      refine ⟨_, rfl, ?_⟩
      refine wa_nil ?_
      refine ⟨[yInt (0 : Int), yInt (1 : Int), yInt (2 : Int), yInt (2 : Int), yInt (3 : Int), yInt (3 : Int), yInt (4 : Int), yInt (4 : Int)], rfl, show 8 ≤ 1000 by decide, ?_⟩
      refine ⟨_, rfl, ?_⟩
      refine ⟨_, rfl, ?_⟩
      refine wx_call ?_
      refine wa_io rfl ?_
      refine wa_cons ?_
      refine wx_int ?_
      refine ⟨_, rfl, ?_⟩
      refine wa_nil ?_
      refine rc_call _ _ _ ⟨_law_source_here, (8 : Int), rfl, rfl⟩ ⟨⟨_, rfl⟩, rfl, trivial⟩ (show List.Nodup ([1] : List Nat) by decide) rfl (.inr fun _ z => by first | exact noerr_ne z | exact (nomatch z)) fun r2 _ => ?_
      refine ⟨_, rfl, ?_⟩
      refine rx_ixLp (t := yInt) (xs := ([(0 : Int), (1 : Int), (2 : Int), (2 : Int), (3 : Int), (3 : Int), (4 : Int), (4 : Int)] : List Int)) rfl fun r3 => ?_
      refine ⟨r3, _, rfl, show 2 < 6 by decide, rfl, fun _law_many => ?_⟩
      refine ws_seq ?_
      refine ws_ctx (Γ' := [.val ((yLst K yInt) _law_script), .own false ((wLst K yInt) r2.2), .val (yInt _law_many), .any, .any, .any]) rfl ?_
      refine ws_setO (wDct (κ := Str) yInt) ?_
      refine wx_dnew ?_
      refine ⟨([] : (List (Str × Int))), _, rfl, show 3 < 6 by decide, rfl, fun _law_common => ?_⟩
      refine ws_seq ?_
      refine ws_ctx (Γ' := [.val ((yLst K yInt) _law_script), .own false ((wLst K yInt) r2.2), .val (yInt _law_many), .own false ((wDct (κ := Str) yInt) _law_common), .any, .any]) rfl ?_
      refine ws_blk (fun s2 : ((List Int) × (List (Str × Int))) => [.val ((yLst K yInt) _law_script), .own false ((wLst K yInt) s2.1), .val (yInt _law_many), .own false ((wDct (κ := Str) yInt) s2.2), .any, .any]) rfl ?_ ?_
      · refine ws_if ?_
        refine wt_b ?_
        refine wx_op ?_
        refine wx_call ?_
        refine wa_io rfl ?_
        refine wa_cons ?_
        refine wx_int ?_
        refine ⟨_, rfl, ?_⟩
        refine wa_nil ?_
        refine rc_call _ _ _ ⟨r2.2, (4 : Int), rfl, rfl⟩ ⟨⟨_, rfl⟩, rfl, trivial⟩ (show List.Nodup ([1] : List Nat) by decide) rfl (.inr fun _ z => by first | exact noerr_ne z | exact (nomatch z)) fun r4 _ => ?_
        refine ⟨_, rfl, ?_⟩
        refine wx_int ?_
        refine ⟨_, rfl, ?_⟩
        refine rx_eq ?_
        refine ⟨_, rfl, ?_⟩
        refine ⟨_, _, rfl, ?_, ?_⟩
        · refine ws_ctx (Γ' := [.val ((yLst K yInt) _law_script), .own false ((wLst K yInt) r4.2), .val (yInt _law_many), .own false ((wDct (κ := Str) yInt) _law_common), .any, .any]) rfl ?_
          refine ws_for (μ := ((List Int) × (List (Str × Int)))) yStr ?_
          refine wi_list ?_
          refine wx_fz ?_
          refine wx_lst (K := K) ?_
          refine wa_cons ?_
          refine wx_str ?_
          refine ⟨_, rfl, ?_⟩
          refine wa_cons ?_
          refine wx_str ?_
          refine ⟨_, rfl, ?_⟩
          refine wa_cons ?_
          refine wx_str ?_
          refine ⟨_, rfl, ?_⟩
          refine wa_cons ?_
          refine wx_str ?_
          refine ⟨_, rfl, ?_⟩
          refine wa_cons ?_
          refine wx_str ?_
          refine ⟨_, rfl, ?_⟩
          refine wa_nil ?_
          refine ⟨[yStr ("a" : Str), yStr ("a1" : Str), yStr ("b" : Str), yStr ("c.d" : Str), yStr ("d" : Str)], rfl, show 5 ≤ 1000 by decide, ?_⟩
          refine ⟨_, rfl, ?_⟩
          refine ⟨_, rfl, ?_⟩
          refine ⟨_, (fun s1 : ((List Int) × (List (Str × Int))) => [.val ((yLst K yInt) _law_script), .own false ((wLst K yInt) s1.1), .val (yInt _law_many), .own false ((wDct (κ := Str) yInt) s1.2), .any, .any]), ([("a" : Str), ("a1" : Str), ("b" : Str), ("c.d" : Str), ("d" : Str)] : List Str), _, _, rfl, rfl, by walk_at "subc", fun s1 q1 => ?_, fun s1 => ?_⟩
          · refine wg_name (show 4 < 6 by decide) ?_
            refine ws_ctx (Γ' := [.val ((yLst K yInt) _law_script), .own false ((wLst K yInt) s1.1), .val (yInt _law_many), .own false ((wDct (κ := Str) yInt) s1.2), .val (yStr q1), .any]) rfl ?_
            refine ws_dput (t := yInt) (tk := yStr) ?_
            refine wx_call ?_
            refine wa_io rfl ?_
            refine wa_cons ?_
            refine wx_int ?_
            refine ⟨_, rfl, ?_⟩
            refine wa_nil ?_
            refine rc_call _ _ _ ⟨s1.1, (2 : Int), rfl, rfl⟩ ⟨⟨_, rfl⟩, rfl, trivial⟩ (show List.Nodup ([1] : List Nat) by decide) rfl (.inr fun _ z => by first | exact noerr_ne z | exact (nomatch z)) fun r5 _ => ?_
            refine ⟨r5.1, rfl, ⟨_, _, rfl⟩, ?_⟩
            refine wx_var rfl ?_
            refine ⟨_, q1, _, s1.2, rfl, rfl, rfl, fun d1 => ?_⟩
            exact ⟨_, rfl, by walk_at "subc"⟩
          exact ⟨_, rfl, by walk_at "subc"⟩
        · refine ws_next ?_
          exact ⟨_, rfl, by walk_at "subc"⟩
      intro s2
      refine ws_ctx (Γ' := [.val ((yLst K yInt) _law_script), .own false ((wLst K yInt) s2.1), .val (yInt _law_many), .own false ((wDct (κ := Str) yInt) s2.2), .any, .any]) rfl ?_
      refine ws_frz 3 rfl ?_
      refine ws_ret ?_
      refine wx_fz ?_
      refine wx_lcU (K := K) yInt (yPr K (yTup K yStr) (yTup K (yTup K (yPr K yStr yInt)))) (gk_name (by decide)) ?_
      refine wi_rng1 ?_
      refine wa_cons ?_
      refine wx_var rfl ?_
      refine ⟨_, rfl, ?_⟩
      refine wa_nil ?_
      refine ⟨_, _, rfl, rfl, ?_⟩
      refine ⟨_, (rng 0 (_law_many).toNat), _, rfl, rfl, fun q2 => ?_, fun r9 => ?_⟩
      · refine wg_ctx (Γ' := [.val ((yLst K yInt) _law_script), .any, .val (yInt _law_many), .val ((yDct (κ := Str) yInt) s2.2), .any, .any]) rfl ?_
        refine wg_name (show 5 < 6 by decide) ?_
        refine wt_yes ?_
        refine ⟨_, (if_pos rfl).symm, ?_⟩
        refine wx_callT ?_
        refine wx_call ?_
        refine wa_cons ?_
        refine wx_var rfl ?_
        refine ⟨_, rfl, ?_⟩
        refine wa_cons ?_
        refine wx_op ?_
        refine wx_int ?_
        refine ⟨_, rfl, ?_⟩
        refine wx_var rfl ?_
        refine ⟨_, rfl, ?_⟩
        refine rx_ari rfl ?_
        refine ⟨_, rfl, ?_⟩
        refine wa_nil ?_
        refine rc_call _ _ _ ⟨_law_script, ((1 : Int) + q2), rfl, rfl⟩ ⟨rfl, rfl, trivial⟩ (show List.Nodup ([] : List Nat) by decide) rfl (.inr fun _ z => by first | exact noerr_ne z | exact (nomatch z)) fun r7 _ => ?_
        refine ⟨_, rfl, ?_⟩
        refine wa_cons ?_
        refine wx_var rfl ?_
        refine ⟨_, rfl, ?_⟩
        refine wa_cons ?_
        refine wx_var rfl ?_
        refine ⟨_, rfl, ?_⟩
        refine wa_nil ?_
        refine ⟨rfl, [yInt q2, (yDct (κ := Str) yInt) s2.2], _, _, rfl, ⟨r7, q2, s2.2, rfl, rfl⟩, rfl, fun _ z => noerr_ne z, fun r8 _ => ?_⟩
        exact ⟨_, rfl, rfl⟩
      refine ⟨_, rfl, ?_⟩
      exact ⟨_, rfl, rfl, (by first | trivial | exact ⟨rfl, trivial⟩ | exact ⟨rfl, rfl, trivial⟩)⟩
def pre__law_clauses (K : PySem.W.Frag) (A : Nat → Addr) : List Ar → Cl → Prop := fun as d => ∃ (_law_names_here : (List Str)), as = [.val ((yLst K yStr) _law_names_here)] ∧ d = ⟨((List (List (Str × Int)))), f__law_clauses _law_names_here, fun r => .val ((yLst K (yTup K (yPr K yStr yInt))) r), fun r => []⟩
theorem ok__law_clauses (T : Txt K mg A D) : FnOk P w K mg base CX0 1 (A 40) (D 40) ["_law_names_here"] (spM A (pre__law_clauses K A)) := by
  refine T.F__law_clauses.ok sc__law_clauses (fun vs H Q E h => ?_) (fun cdv A' outer s H vs Q E hr h => ?_)
  · exact spM_len h fun as d hp => by obtain ⟨_law_names_here, rfl, rfl⟩ := hp; rfl
  · have hu := hu_of hr
    refine ⟨_, (pss_cons (ps_set (i := 1) sc__law_clauses.nd rfl (Or.inl rfl) (pe_lst (pa_cons (pe_tup pa_nil) pa_nil)))
      (pss_cons (ps_for PassesOwn.never rfl (iK_list (K := K) rfl (pv 0)) (pg_name (i := 2) sc__law_clauses.nd rfl (Or.inr rfl))
        (pss_one (ps_set (i := 1) sc__law_clauses.nd rfl (Or.inl rfl) (pe_op (op_catS (K := K) rfl) (pe_op (op_catS (K := K) rfl) (pv 1) (pe_lc (own := [("_law_one", 3)]) (g := gName 3) (tt := tYes) rfl sc__law_clauses.nd (iK_list (K := K) rfl (pv 1)) (blkOk_by (N := N__law_clauses) (sc := defScope (topS 40)) (by decide +kernel)) (fun _ _ _ _ _ => (pg_name (i := 3) sc__law_clauses.nd rfl (Or.inl rfl))) (fun _ _ _ _ _ => pts_nil) (fun _ _ _ _ _ => (pe_op (oK_catA (K := K) rfl) (pv 3) (pe_tup (pa_cons (pe_tup (pa_cons (pv 2) (pa_cons pe_int pa_nil))) pa_nil)))))) (pe_lc (own := [("_law_one", 3)]) (g := gName 3) (tt := tYes) rfl sc__law_clauses.nd (iK_list (K := K) rfl (pv 1)) (blkOk_by (N := N__law_clauses) (sc := defScope (topS 40)) (by decide +kernel)) (fun _ _ _ _ _ => (pg_name (i := 3) sc__law_clauses.nd rfl (Or.inl rfl))) (fun _ _ _ _ _ => pts_nil) (fun _ _ _ _ _ => (pe_op (oK_catA (K := K) rfl) (pv 3) (pe_tup (pa_cons (pe_tup (pa_cons (pv 2) (pa_cons pe_int pa_nil))) pa_nil)))))))))
      (pss_one (ps_ret (pe_sortedLen (K := K) rfl hr.units (by rfl) T.z_sorted (by rfl) T.z_len (pa_cons (pv 1) pa_nil)))))), ?_⟩
    refine fn_run0 h (fun as d hp => ?_) fun as d hp => ?_
    · obtain ⟨_law_names_here, rfl, rfl⟩ := hp; simp
    · obtain ⟨_law_names_here, rfl, rfl⟩ := hp
      refine ⟨_, (show f__law_clauses _law_names_here = Res.noerr _ from rfl), ?_⟩
      refine ws_seq ?_
      refine ws_ctx (Γ' := [.val ((yLst K yStr) _law_names_here), .any, .any, .any]) rfl ?_
      refine ws_setL (yLst K (yTup K (yPr K yStr yInt))) ?_
      refine wx_fz ?_
      refine wx_lst (K := K) ?_
      refine wa_cons ?_
      refine wx_tup (K := K) ?_
      refine wa_nil ?_
      refine ⟨[], rfl, show 0 ≤ 1000 by decide, ?_⟩
      refine ⟨_, rfl, ?_⟩
      refine wa_nil ?_
      refine ⟨[(yTup K (yPr K yStr yInt)) ([] : (List (Str × Int)))], rfl, show 1 ≤ 1000 by decide, ?_⟩
      refine ⟨_, rfl, ?_⟩
      refine ⟨([([] : (List (Str × Int)))] : List (List (Str × Int))), _, rfl, show 1 < 4 by decide, rfl, fun _law_found => ?_⟩
      refine ws_seq ?_
      refine ws_ctx (Γ' := [.val ((yLst K yStr) _law_names_here), .val ((yLst K (yTup K (yPr K yStr yInt))) _law_found), .any, .any]) rfl ?_
      refine ws_for (μ := ((List (List (Str × Int))))) yStr ?_
      refine wi_list ?_
      refine wx_var rfl ?_
      refine ⟨_, rfl, ?_⟩
      refine ⟨_, (fun s1 : ((List (List (Str × Int)))) => [.val ((yLst K yStr) _law_names_here), .val ((yLst K (yTup K (yPr K yStr yInt))) s1), .any, .any]), _law_names_here, _, _, rfl, rfl, by walk_at "subc", fun s1 q1 => ?_, fun s1 => ?_⟩
      · refine wg_name (show 2 < 4 by decide) ?_
        refine ws_ctx (Γ' := [.val ((yLst K yStr) _law_names_here), .val ((yLst K (yTup K (yPr K yStr yInt))) s1), .val (yStr q1), .any]) rfl ?_
        refine ws_setL (yLst K (yTup K (yPr K yStr yInt))) ?_
        refine wx_fz ?_
        refine wx_op ?_
        refine wx_fz ?_
        refine wx_op ?_
        refine wx_var rfl ?_
        refine ⟨_, rfl, ?_⟩
        refine wx_fz ?_
        refine wx_lcU (K := K) (yTup K (yPr K yStr yInt)) (yTup K (yPr K yStr yInt)) (gk_name (by decide)) ?_
        refine wi_list ?_
        refine wx_var rfl ?_
        refine ⟨_, rfl, ?_⟩
        refine ⟨_, s1, _, rfl, rfl, fun q2 => ?_, fun r2 => ?_⟩
        · refine wg_ctx (Γ' := [.val ((yLst K yStr) _law_names_here), .val ((yLst K (yTup K (yPr K yStr yInt))) s1), .val (yStr q1), .any]) rfl ?_
          refine wg_name (show 3 < 4 by decide) ?_
          refine wt_yes ?_
          refine ⟨_, (if_pos rfl).symm, ?_⟩
          refine wx_op ?_
          refine wx_var rfl ?_
          refine ⟨_, rfl, ?_⟩
          refine wx_tup (K := K) ?_
          refine wa_cons ?_
          refine wx_tup (K := K) ?_
          refine wa_cons ?_
          refine wx_var rfl ?_
          refine ⟨_, rfl, ?_⟩
          refine wa_cons ?_
          refine wx_int ?_
          refine ⟨_, rfl, ?_⟩
          refine wa_nil ?_
          refine ⟨[yStr q1, yInt (0 : Int)], rfl, show 2 ≤ 1000 by decide, ?_⟩
          refine ⟨_, rfl, ?_⟩
          refine wa_nil ?_
          refine ⟨[(yPr K yStr yInt) (q1, (0 : Int))], rfl, show 1 ≤ 1000 by decide, ?_⟩
          refine ⟨_, rfl, ?_⟩
          refine rx_catT (t := (yPr K yStr yInt)) (xs := q2) (ys := ([(q1, (0 : Int))] : (List (Str × Int)))) rfl ?_
          exact ⟨_, rfl, rfl⟩
        refine ⟨_, rfl, ?_⟩
        refine ⟨_, rfl, ?_⟩
        refine rx_catL (t := (yTup K (yPr K yStr yInt))) (xs := s1) (ys := r2) rfl ?_
        refine ⟨_, rfl, ?_⟩
        refine ⟨_, rfl, ?_⟩
        refine wx_fz ?_
        refine wx_lcU (K := K) (yTup K (yPr K yStr yInt)) (yTup K (yPr K yStr yInt)) (gk_name (by decide)) ?_
        refine wi_list ?_
        refine wx_var rfl ?_
        refine ⟨_, rfl, ?_⟩
        refine ⟨_, s1, _, rfl, rfl, fun q3 => ?_, fun r5 => ?_⟩
        · refine wg_ctx (Γ' := [.val ((yLst K yStr) _law_names_here), .val ((yLst K (yTup K (yPr K yStr yInt))) s1), .val (yStr q1), .any]) rfl ?_
          refine wg_name (show 3 < 4 by decide) ?_
          refine wt_yes ?_
          refine ⟨_, (if_pos rfl).symm, ?_⟩
          refine wx_op ?_
          refine wx_var rfl ?_
          refine ⟨_, rfl, ?_⟩
          refine wx_tup (K := K) ?_
          refine wa_cons ?_
          refine wx_tup (K := K) ?_
          refine wa_cons ?_
          refine wx_var rfl ?_
          refine ⟨_, rfl, ?_⟩
          refine wa_cons ?_
          refine wx_int ?_
          refine ⟨_, rfl, ?_⟩
          refine wa_nil ?_
          refine ⟨[yStr q1, yInt (1 : Int)], rfl, show 2 ≤ 1000 by decide, ?_⟩
          refine ⟨_, rfl, ?_⟩
          refine wa_nil ?_
          refine ⟨[(yPr K yStr yInt) (q1, (1 : Int))], rfl, show 1 ≤ 1000 by decide, ?_⟩
          refine ⟨_, rfl, ?_⟩
          refine rx_catT (t := (yPr K yStr yInt)) (xs := q3) (ys := ([(q1, (1 : Int))] : (List (Str × Int)))) rfl ?_
          exact ⟨_, rfl, rfl⟩
        refine ⟨_, rfl, ?_⟩
        refine ⟨_, rfl, ?_⟩
        refine rx_catL (t := (yTup K (yPr K yStr yInt))) (xs := (s1 ++ r2)) (ys := r5) rfl ?_
        refine ⟨_, rfl, ?_⟩
        refine ⟨((s1 ++ r2) ++ r5), _, rfl, show 1 < 4 by decide, rfl, fun _law_found => ?_⟩
        exact ⟨_, rfl, by walk_at "subc"⟩
      refine ws_ctx (Γ' := [.val ((yLst K yStr) _law_names_here), .val ((yLst K (yTup K (yPr K yStr yInt))) s1), .any, .any]) rfl ?_
      refine ws_ret ?_
      refine wx_fz ?_
      refine wx_sortLen (K := K) (t := (yPr K yStr yInt)) ?_
      refine wa_cons ?_
      refine wx_var rfl ?_
      refine ⟨_, rfl, ?_⟩
      refine wa_nil ?_
      refine ⟨s1, rfl, ?_⟩
      refine ⟨_, rfl, ?_⟩
      exact ⟨_, rfl, rfl, (by first | trivial | exact ⟨rfl, trivial⟩ | exact ⟨rfl, rfl, trivial⟩)⟩
def pre__law_normal (K : PySem.W.Frag) (A : Nat → Addr) : List Ar → Cl → Prop := fun as d => ∃ (_law_names_here : (List Str)) (_law_rows_here : (List (List Int))), as = [.val ((yLst K yStr) _law_names_here), .val ((yLst K (yTup K yInt)) _law_rows_here)] ∧ d = ⟨(((List Str) × (List (List (Str × Int))))), f__law_normal _law_names_here _law_rows_here, fun r => .val ((yPr K (yTup K yStr) (yTup K (yTup K (yPr K yStr yInt)))) r), fun r => []⟩
theorem ok__law_normal (T : Txt K mg A D) : FnOk P w K mg base CX0 2 (A 41) (D 41) ["_law_names_here", "_law_rows_here"] (spM A (pre__law_normal K A)) := by
  refine T.F__law_normal.ok sc__law_normal (fun vs H Q E h => ?_) (fun cdv A' outer s H vs Q E hr h => ?_)
  · exact spM_len h fun as d hp => by obtain ⟨_law_names_here, _law_rows_here, rfl, rfl⟩ := hp; rfl
  · have hu := hu_of hr
    have G__law_clauses : FnOk P w K mg base CX0 1 (A 40) (D 40) ["_law_names_here"] (spM A (pre__law_clauses K A)) := ok__law_clauses T
    have G__law_kept : FnOk P w K mg base CX0 1 (A 36) (D 36) ["_law_names_here", "_law_row", "_law_clauses_here"] (spM A (pre__law_kept K A)) := ok__law_kept T
    refine ⟨_, (pss_cons (ps_set (i := 2) sc__law_normal.nd rfl (Or.inl rfl) (pe_lst pa_nil))
      (pss_cons (ps_for PassesOwn.never rfl (iK_list (K := K) rfl (pe_call G__law_clauses (hr.mono (by decide)) rfl T.g__law_clauses T.F__law_clauses.kp T.b__law_clauses .nil pass0 (pa_cons (pv 0) pa_nil))) (pg_name (i := 3) sc__law_normal.nd rfl (Or.inr rfl))
        (pss_cons (ps_set (i := 4) sc__law_normal.nd rfl (Or.inl rfl) pe_bl)
        (pss_cons (ps_for PassesOwn.never rfl (iK_list (K := K) rfl (pv 2)) (pg_name (i := 5) sc__law_normal.nd rfl (Or.inl rfl))
          (pss_one (ps_if (pt_cmpR op_eq (pe_callB (id := "len") (cK_len (K := K) rfl) (by rfl) T.z_len (by decide +kernel) (pa_cons (pe_lc (own := [("_law_pair", 6)]) (g := gName 6)  rfl sc__law_normal.nd (iK_tup (K := K) rfl (pv 5)) (blkOk_by (N := N__law_normal) (sc := defScope (topS 41)) (by decide +kernel)) (fun _ _ _ _ _ => (pg_name (i := 6) sc__law_normal.nd rfl (Or.inl rfl))) (fun _ _ _ _ _ => (pts_one (pt_cmpR (oP_nin (K := K) rfl hr.units) (pv 6) (pv 3) rfl))) (fun _ _ _ _ _ => (pv 6))) pa_nil)) pe_int (nomark _))
            (pss_one (ps_set (i := 4) sc__law_normal.nd rfl (Or.inl rfl) pe_bl))
            pss_nil)))
        (pss_one (ps_if (PW.pt (pw_and (pt_not (pt_val (pv 4))) (pw_and1 (pt_cmpR op_eq (pe_callB (id := "len") (cK_len (K := K) rfl) (by rfl) T.z_len (by decide +kernel) (pa_cons (pe_lc (own := [("_law_row", 7)]) (g := gName 7)  rfl sc__law_normal.nd (iK_list (K := K) rfl (pv 1)) (blkOk_by (N := N__law_normal) (sc := defScope (topS 41)) (by decide +kernel)) (fun _ _ _ _ _ => (pg_name (i := 7) sc__law_normal.nd rfl (Or.inl rfl))) (fun _ _ _ _ _ => (pts_one (pt_not (pt_val (pe_call G__law_kept (hr.mono (by decide)) rfl T.g__law_kept T.F__law_kept.kp T.b__law_kept .nil pass0 (pa_cons (pv 0) (pa_cons (pv 7) (pa_cons (pe_tup (pa_cons (pv 3) pa_nil)) pa_nil)))))))) (fun _ _ _ _ _ => (pv 7))) pa_nil)) pe_int (nomark _)))))
          (pss_one (ps_expr (pe_bm PySem.F.plainAttrs_list PySem.F.slot_list_append PySem.F.type_list_append mt_append (pv 2) (pa_cons (pv 3) pa_nil))))
          pss_nil)))))
      (pss_one (ps_ret (pe_tup (pa_cons (pe_callTy (T := "tuple") (cK_tuple (K := K) rfl) (by rfl) T.z_tuple (by decide +kernel) (pa_cons (pv 0) pa_nil)) (pa_cons (pe_callTy (T := "tuple") (cK_tuple (K := K) rfl) (by rfl) T.z_tuple (by decide +kernel) (pa_cons (pe_callB (id := "sorted") (cW_sorted (K := K) rfl hr.units) (by rfl) T.z_sorted (by decide +kernel) (pa_cons (pv 2) pa_nil)) pa_nil)) pa_nil))))))), ?_⟩
    refine fn_run0 h (fun as d hp => ?_) fun as d hp => ?_
    · obtain ⟨_law_names_here, _law_rows_here, rfl, rfl⟩ := hp; simp
    · obtain ⟨_law_names_here, _law_rows_here, rfl, rfl⟩ := hp
      refine ⟨_, (show f__law_normal _law_names_here _law_rows_here = Res.noerr _ from rfl), ?_⟩
      refine ws_seq ?_
      refine ws_ctx (Γ' := [.val ((yLst K yStr) _law_names_here), .val ((yLst K (yTup K yInt)) _law_rows_here), .any, .any, .any, .any, .any, .any]) rfl ?_
      refine ws_setO (wLst K (yTup K (yPr K yStr yInt))) ?_
      refine wx_lst (K := K) ?_
      refine wa_nil ?_
      refine ⟨[], rfl, show 0 ≤ 1000 by decide, ?_⟩
      refine ⟨([] : List (List (Str × Int))), _, rfl, show 2 < 8 by decide, rfl, fun _law_least => ?_⟩
      refine ws_seq ?_
      refine ws_ctx (Γ' := [.val ((yLst K yStr) _law_names_here), .val ((yLst K (yTup K yInt)) _law_rows_here), .own false ((wLst K (yTup K (yPr K yStr yInt))) _law_least), .any, .any, .any, .any, .any]) rfl ?_
      refine ws_for (μ := ((List (List (Str × Int))))) (yTup K (yPr K yStr yInt)) ?_
      refine wi_list ?_
      refine wx_call ?_
      refine wa_cons ?_
      refine wx_var rfl ?_
      refine ⟨_, rfl, ?_⟩
      refine wa_nil ?_
      refine rc_call _ _ _ ⟨_law_names_here, rfl, rfl⟩ ⟨rfl, trivial⟩ (show List.Nodup ([] : List Nat) by decide) rfl (.inr fun _ z => by first | exact noerr_ne z | exact (nomatch z)) fun r1 _ => ?_
      refine ⟨_, rfl, ?_⟩
      refine ⟨_, (fun s1 : ((List (List (Str × Int)))) => [.val ((yLst K yStr) _law_names_here), .val ((yLst K (yTup K yInt)) _law_rows_here), .own false ((wLst K (yTup K (yPr K yStr yInt))) s1), .any, .any, .any, .any, .any]), r1, _, _, rfl, rfl, by walk_at "subc", fun s1 q1 => ?_, fun s1 => ?_⟩
      · refine wg_name (show 3 < 8 by decide) ?_
        refine ws_seq ?_
        refine ws_ctx (Γ' := [.val ((yLst K yStr) _law_names_here), .val ((yLst K (yTup K yInt)) _law_rows_here), .own false ((wLst K (yTup K (yPr K yStr yInt))) s1), .val ((yTup K (yPr K yStr yInt)) q1), .any, .any, .any, .any]) rfl ?_
        refine ws_setL yBl ?_
        refine wx_bl ?_
        refine ⟨false, _, rfl, show 4 < 8 by decide, rfl, fun _law_larger => ?_⟩
        refine ws_seq ?_
        refine ws_ctx (Γ' := [.val ((yLst K yStr) _law_names_here), .val ((yLst K (yTup K yInt)) _law_rows_here), .own false ((wLst K (yTup K (yPr K yStr yInt))) s1), .val ((yTup K (yPr K yStr yInt)) q1), .val (yBl _law_larger), .any, .any, .any]) rfl ?_
        refine ws_forO (K := K) (μ := (Bool)) (yTup K (yPr K yStr yInt)) (b := false) (xs := s1) (fun s2 : (Bool) => [.val ((yLst K yStr) _law_names_here), .val ((yLst K (yTup K yInt)) _law_rows_here), .own true ((wLst K (yTup K (yPr K yStr yInt))) s1), .val ((yTup K (yPr K yStr yInt)) q1), .val (yBl s2), .any, .any, .any]) rfl rfl (fun _ => rfl) (by walk_at "subc") (fun s2 q2 => ?_) fun s2 => ?_
        · refine wg_name (show 5 < 8 by decide) ?_
          refine ws_ctx (Γ' := [.val ((yLst K yStr) _law_names_here), .val ((yLst K (yTup K yInt)) _law_rows_here), .own true ((wLst K (yTup K (yPr K yStr yInt))) s1), .val ((yTup K (yPr K yStr yInt)) q1), .val (yBl s2), .val ((yTup K (yPr K yStr yInt)) q2), .any, .any]) rfl ?_
          refine ws_if ?_
          refine wt_b ?_
          refine wx_op ?_
          refine wx_cb ?_
          refine wa_cons ?_
          refine wx_fz ?_
          refine wx_lc (K := K) (yPr K yStr yInt) (yPr K yStr yInt) (fun q3 => (!pin q3 q1)) (fun q3 => q3) (gk_name (by decide)) ?_
          refine wi_tup ?_
          refine wx_var rfl ?_
          refine ⟨_, rfl, ?_⟩
          refine ⟨q2, rfl, fun q3 => ?_, ?_⟩
          · refine wg_ctx (Γ' := [.val ((yLst K yStr) _law_names_here), .val ((yLst K (yTup K yInt)) _law_rows_here), .any, .val ((yTup K (yPr K yStr yInt)) q1), .val (yBl s2), .val ((yTup K (yPr K yStr yInt)) q2), .any, .any]) rfl ?_
            refine wg_name (show 6 < 8 by decide) ?_
            refine wt_b ?_
            refine wx_op ?_
            refine wx_var rfl ?_
            refine ⟨_, rfl, ?_⟩
            refine wx_var rfl ?_
            refine ⟨_, rfl, ?_⟩
            refine rx_ninP (K := K) (t := (yPr K yStr yInt)) (x := q3) (ys := q1) (pTup K) (Nat.le_of_ble_eq_true rfl) ?_
            refine ⟨_, rfl, ?_⟩
            refine ⟨rfl, fun _ => ?_⟩
            refine wx_var rfl ?_
            exact rfl
          refine ⟨_, rfl, ?_⟩
          refine ⟨_, rfl, ?_⟩
          refine wa_nil ?_
          refine rc_lenSq (pLst K) ?_
          rw [List.length_map]
          refine ⟨_, rfl, ?_⟩
          refine wx_int ?_
          refine ⟨_, rfl, ?_⟩
          refine rx_eq ?_
          refine ⟨_, rfl, ?_⟩
          refine ⟨_, _, rfl, ?_, ?_⟩
          · refine ws_ctx (Γ' := [.val ((yLst K yStr) _law_names_here), .val ((yLst K (yTup K yInt)) _law_rows_here), .own true ((wLst K (yTup K (yPr K yStr yInt))) s1), .val ((yTup K (yPr K yStr yInt)) q1), .val (yBl s2), .val ((yTup K (yPr K yStr yInt)) q2), .any, .any]) rfl ?_
            refine ws_setL yBl ?_
            refine wx_bl ?_
            refine ⟨true, _, rfl, show 4 < 8 by decide, rfl, fun _law_larger => ?_⟩
            exact ⟨_, rfl, by walk_at "subc"⟩
          · refine ws_next ?_
            exact ⟨_, rfl, by walk_at "subc"⟩
        refine ws_ctx (Γ' := [.val ((yLst K yStr) _law_names_here), .val ((yLst K (yTup K yInt)) _law_rows_here), .own false ((wLst K (yTup K (yPr K yStr yInt))) s1), .val ((yTup K (yPr K yStr yInt)) q1), .val (yBl s2), .any, .any, .any]) rfl ?_
        refine ws_if ?_
        refine wt_andM (μ := Unit) ?_
        refine wt_not ?_
        refine wt_b ?_
        refine wx_var rfl ?_
        refine ⟨_, rfl, ?_⟩
        refine ⟨(fun s3 : Unit => [.val ((yLst K yStr) _law_names_here), .val ((yLst K (yTup K yInt)) _law_rows_here), .own false ((wLst K (yTup K (yPr K yStr yInt))) s1), .val ((yTup K (yPr K yStr yInt)) q1), .val (yBl s2), .any, .any, .any]), _, (), _, rfl, by walk_at "subc", fun _ => ?_, fun r4 => ?_⟩
        · refine wt_b ?_
          refine wx_op ?_
          refine wx_cb ?_
          refine wa_cons ?_
          refine wx_fz ?_
          refine wx_lcU (K := K) (yTup K yInt) (yTup K yInt) (gk_name (by decide)) ?_
          refine wi_list ?_
          refine wx_var rfl ?_
          refine ⟨_, rfl, ?_⟩
          refine ⟨_, _law_rows_here, _, rfl, rfl, fun q4 => ?_, fun r3 => ?_⟩
          · refine wg_ctx (Γ' := [.val ((yLst K yStr) _law_names_here), .val ((yLst K (yTup K yInt)) _law_rows_here), .any, .val ((yTup K (yPr K yStr yInt)) q1), .val (yBl s2), .any, .any, .any]) rfl ?_
            refine wg_name (show 7 < 8 by decide) ?_
            refine wt_not ?_
            refine wt_b ?_
            refine wx_call ?_
            refine wa_cons ?_
            refine wx_var rfl ?_
            refine ⟨_, rfl, ?_⟩
            refine wa_cons ?_
            refine wx_var rfl ?_
            refine ⟨_, rfl, ?_⟩
            refine wa_cons ?_
            refine wx_tup (K := K) ?_
            refine wa_cons ?_
            refine wx_var rfl ?_
            refine ⟨_, rfl, ?_⟩
            refine wa_nil ?_
            refine ⟨[(yTup K (yPr K yStr yInt)) q1], rfl, show 1 ≤ 1000 by decide, ?_⟩
            refine ⟨_, rfl, ?_⟩
            refine wa_nil ?_
            refine rc_call _ _ _ ⟨_law_names_here, q4, ([q1] : (List (List (Str × Int)))), rfl, rfl⟩ ⟨rfl, rfl, rfl, trivial⟩ (show List.Nodup ([] : List Nat) by decide) rfl (.inr fun _ z => by first | exact noerr_ne z | exact (nomatch z)) fun r2 _ => ?_
            refine ⟨_, rfl, ?_⟩
            refine ⟨_, rfl, ?_⟩
            refine wx_var rfl ?_
            exact ⟨_, rfl, rfl⟩
          refine ⟨_, rfl, ?_⟩
          refine ⟨_, rfl, ?_⟩
          refine wa_nil ?_
          refine rc_lenSq (pLst K) ?_
          rw [List.length_map]
          refine ⟨_, rfl, ?_⟩
          refine wx_int ?_
          refine ⟨_, rfl, ?_⟩
          refine rx_eq ?_
          refine ⟨_, rfl, ?_⟩
          exact ⟨_, rfl, by walk_at "subc"⟩
        refine ⟨_, _, rfl, ?_, ?_⟩
        · refine ws_ctx (Γ' := [.val ((yLst K yStr) _law_names_here), .val ((yLst K (yTup K yInt)) _law_rows_here), .own false ((wLst K (yTup K (yPr K yStr yInt))) s1), .val ((yTup K (yPr K yStr yInt)) q1), .val (yBl s2), .any, .any, .any]) rfl ?_
          refine ws_append (yTup K (yPr K yStr yInt)) (xs0 := s1) rfl ?_
          refine wx_var rfl ?_
          refine ⟨_, s1, q1, _, rfl, rfl, rfl, fun z1 => ?_⟩
          exact ⟨_, rfl, by walk_at "subc"⟩
        · refine ws_next ?_
          exact ⟨_, rfl, by walk_at "subc"⟩
      refine ws_ctx (Γ' := [.val ((yLst K yStr) _law_names_here), .val ((yLst K (yTup K yInt)) _law_rows_here), .own false ((wLst K (yTup K (yPr K yStr yInt))) s1), .any, .any, .any, .any, .any]) rfl ?_
      refine ws_frz 2 rfl ?_
      refine ws_ret ?_
      refine wx_tup (K := K) ?_
      refine wa_cons ?_
      refine wx_cb ?_
      refine wa_cons ?_
      refine wx_var rfl ?_
      refine ⟨_, rfl, ?_⟩
      refine wa_nil ?_
      refine rc_tuple (pLst K) ?_
      refine ⟨_, rfl, ?_⟩
      refine wa_cons ?_
      refine wx_cb ?_
      refine wa_cons ?_
      refine wx_fz ?_
      refine wx_cb ?_
      refine wa_cons ?_
      refine wx_var rfl ?_
      refine ⟨_, rfl, ?_⟩
      refine wa_nil ?_
      refine rc_sortQ (K := K) (t := (yTup K (yPr K yStr yInt))) (Nat.le_of_ble_eq_true rfl) rfl fun r5 => ?_
      refine ⟨_, rfl, ?_⟩
      refine ⟨_, rfl, ?_⟩
      refine wa_nil ?_
      refine rc_tuple (pLst K) ?_
      refine ⟨_, rfl, ?_⟩
      refine wa_nil ?_
      refine ⟨[(yTup K yStr) _law_names_here, (yTup K (yTup K (yPr K yStr yInt))) r5], rfl, show 2 ≤ 1000 by decide, ?_⟩
      exact ⟨_, rfl, rfl, (by first | trivial | exact ⟨rfl, trivial⟩ | exact ⟨rfl, rfl, trivial⟩)⟩
def pre__law_names (K : PySem.W.Frag) (A : Nat → Addr) : List Ar → Cl → Prop := fun as d => ∃ (_law_theories_here : (List ((List Str) × (List (List (Str × Int)))))), as = [.val ((yLst K (yPr K (yTup K yStr) (yTup K (yTup K (yPr K yStr yInt))))) _law_theories_here)] ∧ d = ⟨((List Str)), f__law_names _law_theories_here, fun r => .val ((yLst K yStr) r), fun r => []⟩
theorem ok__law_names (T : Txt K mg A D) : FnOk P w K mg base CX0 1 (A 42) (D 42) ["_law_theories_here"] (spM A (pre__law_names K A)) := by
  refine T.F__law_names.ok sc__law_names (fun vs H Q E h => ?_) (fun cdv A' outer s H vs Q E hr h => ?_)
  · exact spM_len h fun as d hp => by obtain ⟨_law_theories_here, rfl, rfl⟩ := hp; rfl
  · have hu := hu_of hr
    refine ⟨_, (pss_cons (ps_set (i := 1) sc__law_names.nd rfl (Or.inl rfl) (pe_lst pa_nil))
      (pss_cons (ps_for PassesOwn.never rfl (iK_list (K := K) rfl (pv 0)) (pg_name (i := 2) sc__law_names.nd rfl (Or.inl rfl))
        (pss_one (ps_for PassesOwn.never rfl (iK_tup (K := K) rfl (pe_ix (xK_tup (K := K) rfl) (pv 2) pe_int (fun _ _ => rfl))) (pg_name (i := 3) sc__law_names.nd rfl (Or.inl rfl))
          (pss_one (ps_if (pt_cmpR (oP_nin (K := K) rfl hr.units) (pv 3) (pv 1) rfl)
            (pss_one (ps_expr (pe_bm PySem.F.plainAttrs_list PySem.F.slot_list_append PySem.F.type_list_append mt_append (pv 1) (pa_cons (pv 3) pa_nil))))
            pss_nil)))))
      (pss_one (ps_ret (pe_callB (id := "sorted") (cK_sortedS (K := K) rfl) (by rfl) T.z_sorted (by decide +kernel) (pa_cons (pv 1) pa_nil)))))), ?_⟩
    refine fn_run0 h (fun as d hp => ?_) fun as d hp => ?_
    · obtain ⟨_law_theories_here, rfl, rfl⟩ := hp; simp
    · obtain ⟨_law_theories_here, rfl, rfl⟩ := hp
      refine ⟨_, (show f__law_names _law_theories_here = Res.noerr _ from rfl), ?_⟩
      refine ws_seq ?_
      refine ws_ctx (Γ' := [.val ((yLst K (yPr K (yTup K yStr) (yTup K (yTup K (yPr K yStr yInt))))) _law_theories_here), .any, .any, .any]) rfl ?_
      refine ws_setO (wLst K yStr) ?_
      refine wx_lst (K := K) ?_
      refine wa_nil ?_
      refine ⟨[], rfl, show 0 ≤ 1000 by decide, ?_⟩
      refine ⟨([] : List Str), _, rfl, show 1 < 4 by decide, rfl, fun _law_found => ?_⟩
      refine ws_seq ?_
      refine ws_ctx (Γ' := [.val ((yLst K (yPr K (yTup K yStr) (yTup K (yTup K (yPr K yStr yInt))))) _law_theories_here), .own false ((wLst K yStr) _law_found), .any, .any]) rfl ?_
      refine ws_for (μ := ((List Str))) (yPr K (yTup K yStr) (yTup K (yTup K (yPr K yStr yInt)))) ?_
      refine wi_list ?_
      refine wx_var rfl ?_
      refine ⟨_, rfl, ?_⟩
      refine ⟨_, (fun s1 : ((List Str)) => [.val ((yLst K (yPr K (yTup K yStr) (yTup K (yTup K (yPr K yStr yInt))))) _law_theories_here), .own false ((wLst K yStr) s1), .any, .any]), _law_theories_here, _, _, rfl, rfl, by walk_at "subc", fun s1 q1 => ?_, fun s1 => ?_⟩
      · refine wg_name (show 2 < 4 by decide) ?_
        refine ws_ctx (Γ' := [.val ((yLst K (yPr K (yTup K yStr) (yTup K (yTup K (yPr K yStr yInt))))) _law_theories_here), .own false ((wLst K yStr) s1), .val ((yPr K (yTup K yStr) (yTup K (yTup K (yPr K yStr yInt)))) q1), .any]) rfl ?_
        refine ws_for (μ := ((List Str))) yStr ?_
        refine wi_tup ?_
        refine wx_op ?_
        refine wx_var rfl ?_
        refine ⟨_, rfl, ?_⟩
        refine wx_int ?_
        refine ⟨_, rfl, ?_⟩
        refine rx_ixT rfl ?_
        refine ⟨_, rfl, ?_⟩
        refine ⟨_, (fun s2 : ((List Str)) => [.val ((yLst K (yPr K (yTup K yStr) (yTup K (yTup K (yPr K yStr yInt))))) _law_theories_here), .own false ((wLst K yStr) s2), .val ((yPr K (yTup K yStr) (yTup K (yTup K (yPr K yStr yInt)))) q1), .any]), q1.1, _, _, rfl, rfl, by walk_at "subc", fun s2 q2 => ?_, fun s2 => ?_⟩
        · refine wg_name (show 3 < 4 by decide) ?_
          refine ws_ctx (Γ' := [.val ((yLst K (yPr K (yTup K yStr) (yTup K (yTup K (yPr K yStr yInt))))) _law_theories_here), .own false ((wLst K yStr) s2), .val ((yPr K (yTup K yStr) (yTup K (yTup K (yPr K yStr yInt)))) q1), .val (yStr q2)]) rfl ?_
          refine ws_if ?_
          refine wt_b ?_
          refine wx_peek ?_
          refine wx_op ?_
          refine wx_var rfl ?_
          refine ⟨_, rfl, ?_⟩
          refine wx_var rfl ?_
          refine ⟨_, rfl, ?_⟩
          refine rx_ninD (K := K) (t := yStr) (x := q2) (ys := s2) (pLst K) (Nat.le_of_ble_eq_true rfl) ?_
          refine ⟨_, rfl, imm_bl, ?_⟩
          refine ⟨_, rfl, ?_⟩
          refine ⟨_, _, rfl, ?_, ?_⟩
          · refine ws_ctx (Γ' := [.val ((yLst K (yPr K (yTup K yStr) (yTup K (yTup K (yPr K yStr yInt))))) _law_theories_here), .own false ((wLst K yStr) s2), .val ((yPr K (yTup K yStr) (yTup K (yTup K (yPr K yStr yInt)))) q1), .val (yStr q2)]) rfl ?_
            refine ws_append yStr (xs0 := s2) rfl ?_
            refine wx_var rfl ?_
            refine ⟨_, s2, q2, _, rfl, rfl, rfl, fun z1 => ?_⟩
            exact ⟨_, rfl, by walk_at "subc"⟩
          · refine ws_next ?_
            exact ⟨_, rfl, by walk_at "subc"⟩
        exact ⟨_, rfl, by walk_at "subc"⟩
      refine ws_ctx (Γ' := [.val ((yLst K (yPr K (yTup K yStr) (yTup K (yTup K (yPr K yStr yInt))))) _law_theories_here), .own false ((wLst K yStr) s1), .any, .any]) rfl ?_
      refine ws_frz 1 rfl ?_
      refine ws_ret ?_
      refine wx_fz ?_
      refine wx_cb ?_
      refine wa_cons ?_
      refine wx_var rfl ?_
      refine ⟨_, rfl, ?_⟩
      refine wa_nil ?_
      refine rc_sortS rfl ?_
      refine ⟨_, rfl, ?_⟩
      exact ⟨_, rfl, rfl, (by first | trivial | exact ⟨rfl, trivial⟩ | exact ⟨rfl, rfl, trivial⟩)⟩
def pre__law_due (K : PySem.W.Frag) (A : Nat → Addr) : List Ar → Cl → Prop := fun as d => ∃ (_law_theories_here : (List ((List Str) × (List (List (Str × Int)))))), as = [.val ((yLst K (yPr K (yTup K yStr) (yTup K (yTup K (yPr K yStr yInt))))) _law_theories_here)] ∧ d = ⟨((Option (List ((List Str) × (List (List (Str × Int))))))), f__law_due _law_theories_here, fun r => .val ((yOpt (yTup K (yPr K (yTup K yStr) (yTup K (yTup K (yPr K yStr yInt)))))) r), fun r => []⟩
theorem ok__law_due (T : Txt K mg A D) : FnOk P w K mg base CX0 3 (A 43) (D 43) ["_law_theories_here"] (spM A (pre__law_due K A)) := by
  refine T.F__law_due.ok sc__law_due (fun vs H Q E h => ?_) (fun cdv A' outer s H vs Q E hr h => ?_)
  · exact spM_len h fun as d hp => by obtain ⟨_law_theories_here, rfl, rfl⟩ := hp; rfl
  · have hu := hu_of hr
    have G__law_names : FnOk P w K mg base CX0 1 (A 42) (D 42) ["_law_theories_here"] (spM A (pre__law_names K A)) := ok__law_names T
    have G__law_rows : FnOk P w K mg base CX0 1 (A 35) (D 35) ["_law_count"] (spM A (pre__law_rows K A)) := ok__law_rows T
    have G__law_kept : FnOk P w K mg base CX0 1 (A 36) (D 36) ["_law_names_here", "_law_row", "_law_clauses_here"] (spM A (pre__law_kept K A)) := ok__law_kept T
    have G__law_normal : FnOk P w K mg base CX0 2 (A 41) (D 41) ["_law_names_here", "_law_rows_here"] (spM A (pre__law_normal K A)) := ok__law_normal T
    refine ⟨_, (pss_cons (ps_set (i := 1) sc__law_due.nd rfl (Or.inr rfl) (pe_call G__law_names (hr.mono (by decide)) rfl T.g__law_names T.F__law_names.kp T.b__law_names .nil pass0 (pa_cons (pv 0) pa_nil)))
      (pss_cons (ps_set (i := 2) sc__law_due.nd rfl (Or.inl rfl) (pe_call G__law_rows (hr.mono (by decide)) rfl T.g__law_rows T.F__law_rows.kp T.b__law_rows .nil pass0 (pa_cons (pe_callB (id := "len") (cK_len (K := K) rfl) (by rfl) T.z_len (by decide +kernel) (pa_cons (pv 1) pa_nil)) pa_nil)))
      (pss_cons (ps_set (i := 3) sc__law_due.nd rfl (Or.inl rfl) (pe_lst pa_nil))
      (pss_cons (ps_for PassesOwn.never rfl (pi_range1 rfl T.z_range (pa_cons (pe_callB (id := "len") (cK_len (K := K) rfl) (by rfl) T.z_len (by decide +kernel) (pa_cons (pv 0) pa_nil)) pa_nil)) (pg_name (i := 4) sc__law_due.nd rfl (Or.inr rfl))
        (pss_cons (ps_setLc (i := 2) (own := [("_law_row", 5)]) (g := gName 5)  rfl sc__law_due.nd rfl rfl (sw_true rfl rfl rfl (by decide +kernel))  (iK_list (K := K) rfl (pv 2)) (blkOk_by (N := N__law_due) (sc := defScope (topS 43)) (by decide +kernel)) (fun _ _ _ _ _ => (pg_name (i := 5) sc__law_due.nd rfl (Or.inl rfl))) (fun _ _ _ _ _ => (pts_one (pt_val (pe_call G__law_kept (hr.mono (by decide)) rfl T.g__law_kept T.F__law_kept.kp T.b__law_kept .nil pass0 (pa_cons (pv 1) (pa_cons (pv 5) (pa_cons (pe_ix (xK_tup (K := K) rfl) (pe_ix (xK_list (K := K) rfl) (pv 0) (pv 4) (fun _ _ => rfl)) pe_int (fun _ _ => rfl)) pa_nil))))))) (fun _ _ _ _ _ => (pv 5)))
        (pss_cons (ps_set (i := 6) sc__law_due.nd rfl (Or.inr rfl) (pe_call G__law_names (hr.mono (by decide)) rfl T.g__law_names T.F__law_names.kp T.b__law_names .nil pass0 (pa_cons (pe_slice (sK_list (K := K) rfl) (pv 0) (po_some (pe_op op_add (pv 4) pe_int)) po_none) pa_nil)))
        (pss_cons (ps_setLc (i := 7) (own := [("_law_name", 10)]) (g := gName 10)  rfl sc__law_due.nd rfl rfl (sw_true rfl rfl rfl (by decide +kernel))  (iK_list (K := K) rfl (pe_call G__law_names (hr.mono (by decide)) rfl T.g__law_names T.F__law_names.kp T.b__law_names .nil pass0 (pa_cons (pe_slice (sK_list (K := K) rfl) (pv 0) po_none (po_some (pe_op op_add (pv 4) pe_int))) pa_nil))) (blkOk_by (N := N__law_due) (sc := defScope (topS 43)) (by decide +kernel)) (fun _ _ _ _ _ => (pg_name (i := 10) sc__law_due.nd rfl (Or.inl rfl))) (fun _ _ _ _ _ => (pts_one (pt_cmpR (oP_in (K := K) rfl hr.units) (pv 10) (pv 6) rfl))) (fun _ _ _ _ _ => (pv 10)))
        (pss_cons (ps_set (i := 8) sc__law_due.nd rfl (Or.inl rfl) (pe_lst pa_nil))
        (pss_cons (ps_for PassesOwn.never rfl (iK_list (K := K) rfl (pv 2)) (pg_name (i := 5) sc__law_due.nd rfl (Or.inr rfl))
          (pss_cons (ps_set (i := 9) sc__law_due.nd rfl (Or.inl rfl) (pe_callTy (T := "tuple") (cK_tuple (K := K) rfl) (by rfl) T.z_tuple (by decide +kernel) (pa_cons (pe_lc (own := [("_law_name", 10)]) (g := gName 10) (tt := tYes) rfl sc__law_due.nd (iK_list (K := K) rfl (pv 7)) (blkOk_by (N := N__law_due) (sc := defScope (topS 43)) (by decide +kernel)) (fun _ _ _ _ _ => (pg_name (i := 10) sc__law_due.nd rfl (Or.inl rfl))) (fun _ _ _ _ _ => pts_nil) (fun _ _ _ _ _ => (pe_ix (xK_tup (K := K) rfl) (pv 5) (pe_lindex (K := K) rfl (pv 1) (pv 10)) (fun _ _ => rfl)))) pa_nil)))
          (pss_one (ps_if (pt_cmpR (oP_nin (K := K) rfl hr.units) (pv 9) (pv 8) rfl)
            (pss_one (ps_expr (pe_bm PySem.F.plainAttrs_list PySem.F.slot_list_append PySem.F.type_list_append mt_append (pv 8) (pa_cons (pv 9) pa_nil))))
            pss_nil))))
        (pss_one (ps_expr (pe_bm PySem.F.plainAttrs_list PySem.F.slot_list_append PySem.F.type_list_append mt_append (pv 3) (pa_cons (pe_call G__law_normal (hr.mono (by decide)) rfl T.g__law_normal T.F__law_normal.kp T.b__law_normal .nil pass0 (pa_cons (pv 7) (pa_cons (pv 8) pa_nil))) pa_nil))))))))))
      (pss_cons (ps_if (pt_cmpR op_gt (pe_callB (id := "len") (cK_len (K := K) rfl) (by rfl) T.z_len (by decide +kernel) (pa_cons (pv 2) pa_nil)) pe_int (nomark _))
        (pss_one (ps_ret pe_non))
        pss_nil)
      (pss_one (ps_ret (pe_callTy (T := "tuple") (cK_tuple (K := K) rfl) (by rfl) T.z_tuple (by decide +kernel) (pa_cons (pe_slice (sK_list (K := K) rfl) (pv 3) po_none (po_some (pe_op op_sub (pe_callB (id := "len") (cK_len (K := K) rfl) (by rfl) T.z_len (by decide +kernel) (pa_cons (pv 0) pa_nil)) pe_int))) pa_nil))))))))), ?_⟩
    refine fn_run0 h (fun as d hp => ?_) fun as d hp => ?_
    · obtain ⟨_law_theories_here, rfl, rfl⟩ := hp; simp
    · obtain ⟨_law_theories_here, rfl, rfl⟩ := hp
      refine ⟨_, (show f__law_due _law_theories_here = Res.noerr _ from rfl), ?_⟩
      refine ws_seq ?_
      refine ws_ctx (Γ' := [.val ((yLst K (yPr K (yTup K yStr) (yTup K (yTup K (yPr K yStr yInt))))) _law_theories_here), .any, .any, .any, .any, .any, .any, .any, .any, .any, .any]) rfl ?_
      refine ws_setL (yLst K yStr) ?_
      refine wx_call ?_
      refine wa_cons ?_
      refine wx_var rfl ?_
      refine ⟨_, rfl, ?_⟩
      refine wa_nil ?_
      refine rc_call _ _ _ ⟨_law_theories_here, rfl, rfl⟩ ⟨rfl, trivial⟩ (show List.Nodup ([] : List Nat) by decide) rfl (.inr fun _ z => by first | exact noerr_ne z | exact (nomatch z)) fun r1 _ => ?_
      refine ⟨r1, _, rfl, show 1 < 11 by decide, rfl, fun _law_names_here => ?_⟩
      refine ws_seq ?_
      refine ws_ctx (Γ' := [.val ((yLst K (yPr K (yTup K yStr) (yTup K (yTup K (yPr K yStr yInt))))) _law_theories_here), .val ((yLst K yStr) _law_names_here), .any, .any, .any, .any, .any, .any, .any, .any, .any]) rfl ?_
      refine ws_setL (yLst K (yTup K yInt)) ?_
      refine wx_call ?_
      refine wa_cons ?_
      refine wx_cb ?_
      refine wa_cons ?_
      refine wx_var rfl ?_
      refine ⟨_, rfl, ?_⟩
      refine wa_nil ?_
      refine rc_lenSq (pLst K) ?_
      rw [List.length_map]
      refine ⟨_, rfl, ?_⟩
      refine wa_nil ?_
      refine rc_call _ _ _ ⟨(_law_names_here.length : Int), rfl, rfl⟩ ⟨rfl, trivial⟩ (show List.Nodup ([] : List Nat) by decide) rfl (.inr fun _ z => by first | exact noerr_ne z | exact (nomatch z)) fun r2 _ => ?_
      refine ⟨r2, _, rfl, show 2 < 11 by decide, rfl, fun _law_rows_here => ?_⟩
      refine ws_seq ?_
      refine ws_ctx (Γ' := [.val ((yLst K (yPr K (yTup K yStr) (yTup K (yTup K (yPr K yStr yInt))))) _law_theories_here), .val ((yLst K yStr) _law_names_here), .val ((yLst K (yTup K yInt)) _law_rows_here), .any, .any, .any, .any, .any, .any, .any, .any]) rfl ?_
      refine ws_setO (wLst K (yPr K (yTup K yStr) (yTup K (yTup K (yPr K yStr yInt))))) ?_
      refine wx_lst (K := K) ?_
      refine wa_nil ?_
      refine ⟨[], rfl, show 0 ≤ 1000 by decide, ?_⟩
      refine ⟨([] : List ((List Str) × (List (List (Str × Int))))), _, rfl, show 3 < 11 by decide, rfl, fun _law_found => ?_⟩
      refine ws_seq ?_
      refine ws_ctx (Γ' := [.val ((yLst K (yPr K (yTup K yStr) (yTup K (yTup K (yPr K yStr yInt))))) _law_theories_here), .val ((yLst K yStr) _law_names_here), .val ((yLst K (yTup K yInt)) _law_rows_here), .own false ((wLst K (yPr K (yTup K yStr) (yTup K (yTup K (yPr K yStr yInt))))) _law_found), .any, .any, .any, .any, .any, .any, .any]) rfl ?_
      refine ws_for (μ := ((List (List Int)) × (List ((List Str) × (List (List (Str × Int))))))) yInt ?_
      refine wi_rng1 ?_
      refine wa_cons ?_
      refine wx_cb ?_
      refine wa_cons ?_
      refine wx_var rfl ?_
      refine ⟨_, rfl, ?_⟩
      refine wa_nil ?_
      refine rc_lenSq (pLst K) ?_
      rw [List.length_map]
      refine ⟨_, rfl, ?_⟩
      refine wa_nil ?_
      refine ⟨_, _, rfl, rfl, ?_⟩
      refine ⟨_, (fun s1 : ((List (List Int)) × (List ((List Str) × (List (List (Str × Int)))))) => [.val ((yLst K (yPr K (yTup K yStr) (yTup K (yTup K (yPr K yStr yInt))))) _law_theories_here), .val ((yLst K yStr) _law_names_here), .val ((yLst K (yTup K yInt)) s1.1), .own false ((wLst K (yPr K (yTup K yStr) (yTup K (yTup K (yPr K yStr yInt))))) s1.2), .any, .any, .any, .any, .any, .any, .any]), (rng 0 ((_law_theories_here.length : Int)).toNat), _, _, rfl, rfl, by walk_at "subc", fun s1 q1 => ?_, fun s1 => ?_⟩
      · refine wg_name (show 4 < 11 by decide) ?_
        refine ws_seq ?_
        refine ws_ctx (Γ' := [.val ((yLst K (yPr K (yTup K yStr) (yTup K (yTup K (yPr K yStr yInt))))) _law_theories_here), .val ((yLst K yStr) _law_names_here), .val ((yLst K (yTup K yInt)) s1.1), .own false ((wLst K (yPr K (yTup K yStr) (yTup K (yTup K (yPr K yStr yInt))))) s1.2), .val (yInt q1), .any, .any, .any, .any, .any, .any]) rfl ?_
        refine ws_setL (yLst K (yTup K yInt)) ?_
        refine wx_fz ?_
        refine wx_lcU (K := K) (yTup K yInt) (yTup K yInt) (gk_name (by decide)) ?_
        refine wi_list ?_
        refine wx_var rfl ?_
        refine ⟨_, rfl, ?_⟩
        refine ⟨_, s1.1, _, rfl, rfl, fun q2 => ?_, fun r6 => ?_⟩
        · refine wg_ctx (Γ' := [.val ((yLst K (yPr K (yTup K yStr) (yTup K (yTup K (yPr K yStr yInt))))) _law_theories_here), .val ((yLst K yStr) _law_names_here), .val ((yLst K (yTup K yInt)) s1.1), .any, .val (yInt q1), .any, .any, .any, .any, .any, .any]) rfl ?_
          refine wg_name (show 5 < 11 by decide) ?_
          refine wt_b ?_
          refine wx_call ?_
          refine wa_cons ?_
          refine wx_var rfl ?_
          refine ⟨_, rfl, ?_⟩
          refine wa_cons ?_
          refine wx_var rfl ?_
          refine ⟨_, rfl, ?_⟩
          refine wa_cons ?_
          refine wx_op ?_
          refine wx_op ?_
          refine wx_var rfl ?_
          refine ⟨_, rfl, ?_⟩
          refine wx_var rfl ?_
          refine ⟨_, rfl, ?_⟩
          refine rx_ixLp (t := (yPr K (yTup K yStr) (yTup K (yTup K (yPr K yStr yInt))))) (xs := _law_theories_here) rfl fun r4 => ?_
          refine ⟨_, rfl, ?_⟩
          refine wx_int ?_
          refine ⟨_, rfl, ?_⟩
          refine rx_ixT rfl ?_
          refine ⟨_, rfl, ?_⟩
          refine wa_nil ?_
          refine rc_call _ _ _ ⟨_law_names_here, q2, r4.2, rfl, rfl⟩ ⟨rfl, rfl, rfl, trivial⟩ (show List.Nodup ([] : List Nat) by decide) rfl (.inr fun _ z => by first | exact noerr_ne z | exact (nomatch z)) fun r5 _ => ?_
          refine ⟨_, rfl, ?_⟩
          refine ⟨_, rfl, ?_⟩
          refine wx_var rfl ?_
          exact ⟨_, rfl, rfl⟩
        refine ⟨_, rfl, ?_⟩
        refine ⟨r6, _, rfl, show 2 < 11 by decide, rfl, fun _law_rows_here => ?_⟩
        refine ws_seq ?_
        refine ws_ctx (Γ' := [.val ((yLst K (yPr K (yTup K yStr) (yTup K (yTup K (yPr K yStr yInt))))) _law_theories_here), .val ((yLst K yStr) _law_names_here), .val ((yLst K (yTup K yInt)) _law_rows_here), .own false ((wLst K (yPr K (yTup K yStr) (yTup K (yTup K (yPr K yStr yInt))))) s1.2), .val (yInt q1), .any, .any, .any, .any, .any, .any]) rfl ?_
        refine ws_setL (yLst K yStr) ?_
        refine wx_call ?_
        refine wa_cons ?_
        refine wx_fz ?_
        refine wx_slL ?_
        refine wx_var rfl ?_
        refine ⟨_, rfl, ?_⟩
        refine wo_some ?_
        refine wx_op ?_
        refine wx_var rfl ?_
        refine ⟨_, rfl, ?_⟩
        refine wx_int ?_
        refine ⟨_, rfl, ?_⟩
        refine rx_ari rfl ?_
        refine ⟨_, rfl, ?_⟩
        refine wo_no ?_
        rw [pcut_map]
        refine ⟨_, rfl, ?_⟩
        refine ⟨_, rfl, ?_⟩
        refine wa_nil ?_
        refine rc_call _ _ _ ⟨(pcut _law_theories_here (some (q1 + (1 : Int))) none), rfl, rfl⟩ ⟨rfl, trivial⟩ (show List.Nodup ([] : List Nat) by decide) rfl (.inr fun _ z => by first | exact noerr_ne z | exact (nomatch z)) fun r7 _ => ?_
        refine ⟨r7, _, rfl, show 6 < 11 by decide, rfl, fun _law_later => ?_⟩
        refine ws_seq ?_
        refine ws_ctx (Γ' := [.val ((yLst K (yPr K (yTup K yStr) (yTup K (yTup K (yPr K yStr yInt))))) _law_theories_here), .val ((yLst K yStr) _law_names_here), .val ((yLst K (yTup K yInt)) _law_rows_here), .own false ((wLst K (yPr K (yTup K yStr) (yTup K (yTup K (yPr K yStr yInt))))) s1.2), .val (yInt q1), .any, .val ((yLst K yStr) _law_later), .any, .any, .any, .any]) rfl ?_
        refine ws_setL (yLst K yStr) ?_
        refine wx_fz ?_
        refine wx_lc (K := K) yStr yStr (fun q3 => (decide (q3 ∈ _law_later))) (fun q3 => q3) (gk_name (by decide)) ?_
        refine wi_list ?_
        refine wx_call ?_
        refine wa_cons ?_
        refine wx_fz ?_
        refine wx_slL ?_
        refine wx_var rfl ?_
        refine ⟨_, rfl, ?_⟩
        refine wo_no ?_
        refine wo_some ?_
        refine wx_op ?_
        refine wx_var rfl ?_
        refine ⟨_, rfl, ?_⟩
        refine wx_int ?_
        refine ⟨_, rfl, ?_⟩
        refine rx_ari rfl ?_
        refine ⟨_, rfl, ?_⟩
        rw [pcut_map]
        refine ⟨_, rfl, ?_⟩
        refine ⟨_, rfl, ?_⟩
        refine wa_nil ?_
        refine rc_call _ _ _ ⟨(pcut _law_theories_here none (some (q1 + (1 : Int)))), rfl, rfl⟩ ⟨rfl, trivial⟩ (show List.Nodup ([] : List Nat) by decide) rfl (.inr fun _ z => by first | exact noerr_ne z | exact (nomatch z)) fun r8 _ => ?_
        refine ⟨_, rfl, ?_⟩
        refine ⟨r8, rfl, fun q3 => ?_, ?_⟩
        · refine wg_ctx (Γ' := [.val ((yLst K (yPr K (yTup K yStr) (yTup K (yTup K (yPr K yStr yInt))))) _law_theories_here), .val ((yLst K yStr) _law_names_here), .val ((yLst K (yTup K yInt)) _law_rows_here), .any, .val (yInt q1), .any, .val ((yLst K yStr) _law_later), .any, .any, .any, .any]) rfl ?_
          refine wg_name (show 10 < 11 by decide) ?_
          refine wt_b ?_
          refine wx_op ?_
          refine wx_var rfl ?_
          refine ⟨_, rfl, ?_⟩
          refine wx_var rfl ?_
          refine ⟨_, rfl, ?_⟩
          refine rx_inD (K := K) (t := yStr) (x := q3) (ys := _law_later) (pLst K) (Nat.le_of_ble_eq_true rfl) ?_
          refine ⟨_, rfl, ?_⟩
          refine ⟨rfl, fun _ => ?_⟩
          refine wx_var rfl ?_
          exact rfl
        refine ⟨_, rfl, ?_⟩
        refine ⟨((r8.filter fun q3 => (decide (q3 ∈ _law_later))).map fun q3 => q3), _, rfl, show 7 < 11 by decide, rfl, fun _law_common => ?_⟩
        refine ws_seq ?_
        refine ws_ctx (Γ' := [.val ((yLst K (yPr K (yTup K yStr) (yTup K (yTup K (yPr K yStr yInt))))) _law_theories_here), .val ((yLst K yStr) _law_names_here), .val ((yLst K (yTup K yInt)) _law_rows_here), .own false ((wLst K (yPr K (yTup K yStr) (yTup K (yTup K (yPr K yStr yInt))))) s1.2), .val (yInt q1), .any, .val ((yLst K yStr) _law_later), .val ((yLst K yStr) _law_common), .any, .any, .any]) rfl ?_
        refine ws_setO (wLst K (yTup K yInt)) ?_
        refine wx_lst (K := K) ?_
        refine wa_nil ?_
        refine ⟨[], rfl, show 0 ≤ 1000 by decide, ?_⟩
        refine ⟨([] : List (List Int)), _, rfl, show 8 < 11 by decide, rfl, fun _law_seen => ?_⟩
        refine ws_seq ?_
        refine ws_ctx (Γ' := [.val ((yLst K (yPr K (yTup K yStr) (yTup K (yTup K (yPr K yStr yInt))))) _law_theories_here), .val ((yLst K yStr) _law_names_here), .val ((yLst K (yTup K yInt)) _law_rows_here), .own false ((wLst K (yPr K (yTup K yStr) (yTup K (yTup K (yPr K yStr yInt))))) s1.2), .val (yInt q1), .any, .val ((yLst K yStr) _law_later), .val ((yLst K yStr) _law_common), .own false ((wLst K (yTup K yInt)) _law_seen), .any, .any]) rfl ?_
        refine ws_for (μ := ((List (List Int)))) (yTup K yInt) ?_
        refine wi_list ?_
        refine wx_var rfl ?_
        refine ⟨_, rfl, ?_⟩
        refine ⟨_, (fun s2 : ((List (List Int))) => [.val ((yLst K (yPr K (yTup K yStr) (yTup K (yTup K (yPr K yStr yInt))))) _law_theories_here), .val ((yLst K yStr) _law_names_here), .val ((yLst K (yTup K yInt)) _law_rows_here), .own false ((wLst K (yPr K (yTup K yStr) (yTup K (yTup K (yPr K yStr yInt))))) s1.2), .val (yInt q1), .any, .val ((yLst K yStr) _law_later), .val ((yLst K yStr) _law_common), .own false ((wLst K (yTup K yInt)) s2), .any, .any]), _law_rows_here, _, _, rfl, rfl, by walk_at "subc", fun s2 q4 => ?_, fun s2 => ?_⟩
        · refine wg_name (show 5 < 11 by decide) ?_
          refine ws_seq ?_
          refine ws_ctx (Γ' := [.val ((yLst K (yPr K (yTup K yStr) (yTup K (yTup K (yPr K yStr yInt))))) _law_theories_here), .val ((yLst K yStr) _law_names_here), .val ((yLst K (yTup K yInt)) _law_rows_here), .own false ((wLst K (yPr K (yTup K yStr) (yTup K (yTup K (yPr K yStr yInt))))) s1.2), .val (yInt q1), .val ((yTup K yInt) q4), .val ((yLst K yStr) _law_later), .val ((yLst K yStr) _law_common), .own false ((wLst K (yTup K yInt)) s2), .any, .any]) rfl ?_
          refine ws_setL (yTup K yInt) ?_
          refine wx_cb ?_
          refine wa_cons ?_
          refine wx_fz ?_
          refine wx_lcU (K := K) yStr yInt (gk_name (by decide)) ?_
          refine wi_list ?_
          refine wx_var rfl ?_
          refine ⟨_, rfl, ?_⟩
          refine ⟨_, _law_common, _, rfl, rfl, fun q5 => ?_, fun r11 => ?_⟩
          · refine wg_ctx (Γ' := [.val ((yLst K (yPr K (yTup K yStr) (yTup K (yTup K (yPr K yStr yInt))))) _law_theories_here), .val ((yLst K yStr) _law_names_here), .val ((yLst K (yTup K yInt)) _law_rows_here), .any, .val (yInt q1), .val ((yTup K yInt) q4), .val ((yLst K yStr) _law_later), .val ((yLst K yStr) _law_common), .any, .any, .any]) rfl ?_
            refine wg_name (show 10 < 11 by decide) ?_
            refine wt_yes ?_
            refine ⟨_, (if_pos rfl).symm, ?_⟩
            refine wx_op ?_
            refine wx_var rfl ?_
            refine ⟨_, rfl, ?_⟩
            refine wx_lindex (K := K) ?_
            refine wx_var rfl ?_
            refine ⟨_law_names_here, rfl, ?_⟩
            refine wx_var rfl ?_
            refine ⟨q5, _, rfl, rfl, fun r9 => ?_⟩
            refine ⟨_, rfl, ?_⟩
            refine rx_ixTp (t := yInt) (xs := q4) rfl fun r10 => ?_
            exact ⟨_, rfl, rfl⟩
          refine ⟨_, rfl, ?_⟩
          refine ⟨_, rfl, ?_⟩
          refine wa_nil ?_
          refine rc_tuple (pLst K) ?_
          refine ⟨r11, _, rfl, show 9 < 11 by decide, rfl, fun _law_short => ?_⟩
          refine ws_ctx (Γ' := [.val ((yLst K (yPr K (yTup K yStr) (yTup K (yTup K (yPr K yStr yInt))))) _law_theories_here), .val ((yLst K yStr) _law_names_here), .val ((yLst K (yTup K yInt)) _law_rows_here), .own false ((wLst K (yPr K (yTup K yStr) (yTup K (yTup K (yPr K yStr yInt))))) s1.2), .val (yInt q1), .val ((yTup K yInt) q4), .val ((yLst K yStr) _law_later), .val ((yLst K yStr) _law_common), .own false ((wLst K (yTup K yInt)) s2), .val ((yTup K yInt) _law_short), .any]) rfl ?_
          refine ws_if ?_
          refine wt_b ?_
          refine wx_peek ?_
          refine wx_op ?_
          refine wx_var rfl ?_
          refine ⟨_, rfl, ?_⟩
          refine wx_var rfl ?_
          refine ⟨_, rfl, ?_⟩
          refine rx_ninP (K := K) (t := (yTup K yInt)) (x := _law_short) (ys := s2) (pLst K) (Nat.le_of_ble_eq_true rfl) ?_
          refine ⟨_, rfl, imm_bl, ?_⟩
          refine ⟨_, rfl, ?_⟩
          refine ⟨_, _, rfl, ?_, ?_⟩
          · refine ws_ctx (Γ' := [.val ((yLst K (yPr K (yTup K yStr) (yTup K (yTup K (yPr K yStr yInt))))) _law_theories_here), .val ((yLst K yStr) _law_names_here), .val ((yLst K (yTup K yInt)) _law_rows_here), .own false ((wLst K (yPr K (yTup K yStr) (yTup K (yTup K (yPr K yStr yInt))))) s1.2), .val (yInt q1), .val ((yTup K yInt) q4), .val ((yLst K yStr) _law_later), .val ((yLst K yStr) _law_common), .own false ((wLst K (yTup K yInt)) s2), .val ((yTup K yInt) _law_short), .any]) rfl ?_
            refine ws_append (yTup K yInt) (xs0 := s2) rfl ?_
            refine wx_var rfl ?_
            refine ⟨_, s2, _law_short, _, rfl, rfl, rfl, fun z1 => ?_⟩
            exact ⟨_, rfl, by walk_at "subc"⟩
          · refine ws_next ?_
            exact ⟨_, rfl, by walk_at "subc"⟩
        refine ws_ctx (Γ' := [.val ((yLst K (yPr K (yTup K yStr) (yTup K (yTup K (yPr K yStr yInt))))) _law_theories_here), .val ((yLst K yStr) _law_names_here), .val ((yLst K (yTup K yInt)) _law_rows_here), .own false ((wLst K (yPr K (yTup K yStr) (yTup K (yTup K (yPr K yStr yInt))))) s1.2), .val (yInt q1), .any, .val ((yLst K yStr) _law_later), .val ((yLst K yStr) _law_common), .own false ((wLst K (yTup K yInt)) s2), .any, .any]) rfl ?_
        refine ws_frz 8 rfl ?_
        refine ws_append (yPr K (yTup K yStr) (yTup K (yTup K (yPr K yStr yInt)))) (xs0 := s1.2) rfl ?_
        refine wx_call ?_
        refine wa_cons ?_
        refine wx_var rfl ?_
        refine ⟨_, rfl, ?_⟩
        refine wa_cons ?_
        refine wx_var rfl ?_
        refine ⟨_, rfl, ?_⟩
        refine wa_nil ?_
        refine rc_call _ _ _ ⟨_law_common, s2, rfl, rfl⟩ ⟨rfl, rfl, trivial⟩ (show List.Nodup ([] : List Nat) by decide) rfl (.inr fun _ z => by first | exact noerr_ne z | exact (nomatch z)) fun r12 _ => ?_
        refine ⟨_, s1.2, r12, _, rfl, rfl, rfl, fun z2 => ?_⟩
        exact ⟨_, rfl, by walk_at "subc"⟩
      refine ws_seq ?_
      refine ws_ctx (Γ' := [.val ((yLst K (yPr K (yTup K yStr) (yTup K (yTup K (yPr K yStr yInt))))) _law_theories_here), .val ((yLst K yStr) _law_names_here), .val ((yLst K (yTup K yInt)) s1.1), .own false ((wLst K (yPr K (yTup K yStr) (yTup K (yTup K (yPr K yStr yInt))))) s1.2), .any, .any, .any, .any, .any, .any, .any]) rfl ?_
      refine ws_if ?_
      refine wt_b ?_
      refine wx_op ?_
      refine wx_cb ?_
      refine wa_cons ?_
      refine wx_var rfl ?_
      refine ⟨_, rfl, ?_⟩
      refine wa_nil ?_
      refine rc_lenSq (pLst K) ?_
      rw [List.length_map]
      refine ⟨_, rfl, ?_⟩
      refine wx_int ?_
      refine ⟨_, rfl, ?_⟩
      refine rx_cmp rfl ?_
      refine ⟨_, rfl, ?_⟩
      refine ⟨_, _, rfl, ?_, ?_⟩
      · refine ws_ctx (Γ' := [.val ((yLst K (yPr K (yTup K yStr) (yTup K (yTup K (yPr K yStr yInt))))) _law_theories_here), .val ((yLst K yStr) _law_names_here), .val ((yLst K (yTup K yInt)) s1.1), .own false ((wLst K (yPr K (yTup K yStr) (yTup K (yTup K (yPr K yStr yInt))))) s1.2), .any, .any, .any, .any, .any, .any, .any]) rfl ?_
        refine ws_ret ?_
        refine wx_non ?_
        exact ⟨_, rfl, rfl, (by first | trivial | exact ⟨rfl, trivial⟩ | exact ⟨rfl, rfl, trivial⟩)⟩
      · refine ws_next ?_
        refine ws_ctx (Γ' := [.val ((yLst K (yPr K (yTup K yStr) (yTup K (yTup K (yPr K yStr yInt))))) _law_theories_here), .val ((yLst K yStr) _law_names_here), .val ((yLst K (yTup K yInt)) s1.1), .own false ((wLst K (yPr K (yTup K yStr) (yTup K (yTup K (yPr K yStr yInt))))) s1.2), .any, .any, .any, .any, .any, .any, .any]) rfl ?_
        refine ws_frz 3 rfl ?_
        refine ws_ret ?_
        refine wx_cb ?_
        refine wa_cons ?_
        refine wx_fz ?_
        refine wx_slL ?_
        refine wx_var rfl ?_
        refine ⟨_, rfl, ?_⟩
        refine wo_no ?_
        refine wo_some ?_
        refine wx_op ?_
        refine wx_cb ?_
        refine wa_cons ?_
        refine wx_var rfl ?_
        refine ⟨_, rfl, ?_⟩
        refine wa_nil ?_
        refine rc_lenSq (pLst K) ?_
        rw [List.length_map]
        refine ⟨_, rfl, ?_⟩
        refine wx_int ?_
        refine ⟨_, rfl, ?_⟩
        refine rx_ari rfl ?_
        refine ⟨_, rfl, ?_⟩
        rw [pcut_map]
        refine ⟨_, rfl, ?_⟩
        refine ⟨_, rfl, ?_⟩
        refine wa_nil ?_
        refine rc_tuple (pLst K) ?_
        exact ⟨_, rfl, rfl, (by first | trivial | exact ⟨rfl, trivial⟩ | exact ⟨rfl, rfl, trivial⟩)⟩
def pre__law_ask (K : PySem.W.Frag) (A : Nat → Addr) : List Ar → Cl → Prop := fun as d => ∃ (_law_kind : Unit) (_law_theories_here : (List ((List Str) × (List (List (Str × Int)))))), as = [.val ((yKind (A 28)) _law_kind), .val ((yLst K (yPr K (yTup K yStr) (yTup K (yTup K (yPr K yStr yInt))))) _law_theories_here)] ∧ d = ⟨((Option (List ((List Str) × (List (List (Str × Int))))))), f__law_ask _law_kind _law_theories_here, fun r => .val ((yOpt (yTup K (yPr K (yTup K yStr) (yTup K (yTup K (yPr K yStr yInt)))))) r), fun r => []⟩
theorem ok__law_ask (T : Txt K mg A D) : FnOk P w K mg base CX0 8 (A 44) (D 44) ["_law_kind", "_law_theories_here"] (spM A (pre__law_ask K A)) := by
  refine T.F__law_ask.ok sc__law_ask (fun vs H Q E h => ?_) (fun cdv A' outer s H vs Q E hr h => ?_)
  · exact spM_len h fun as d hp => by obtain ⟨_law_kind, _law_theories_here, rfl, rfl⟩ := hp; rfl
  · have hu := hu_of hr
    have G_middles : FnR P w K mg base CX0 7 (A 17) (star 1 (spM A (pre_middles K A))) := ok_middles T
    refine ⟨_, (pss_cons (ps_if (pt_cmpR op_eq (pe_callB (id := "len") (cK_len (K := K) rfl) (by rfl) T.z_len (by decide +kernel) (pa_cons (pv 1) pa_nil)) pe_int (nomark _))
        (pss_one (ps_ret (pe_callF G_middles (hr.mono (by decide)) T.F_middles.kp rfl T.g_middles pass0 (pa_cons (pv 0) pa_nil))))
        pss_nil)
      (pss_cons (ps_if (pt_cmpR op_eq (pe_callB (id := "len") (cK_len (K := K) rfl) (by rfl) T.z_len (by decide +kernel) (pa_cons (pv 1) pa_nil)) pe_int (nomark _))
        (pss_one (ps_ret (pe_callF G_middles (hr.mono (by decide)) T.F_middles.kp rfl T.g_middles pass0 (pa_cons (pv 0) (pa_cons (pe_ix (xK_list (K := K) rfl) (pv 1) pe_int (fun _ _ => rfl)) pa_nil)))))
        pss_nil)
      (pss_cons (ps_if (pt_cmpR op_eq (pe_callB (id := "len") (cK_len (K := K) rfl) (by rfl) T.z_len (by decide +kernel) (pa_cons (pv 1) pa_nil)) pe_int (nomark _))
        (pss_one (ps_ret (pe_callF G_middles (hr.mono (by decide)) T.F_middles.kp rfl T.g_middles pass0 (pa_cons (pv 0) (pa_cons (pe_ix (xK_list (K := K) rfl) (pv 1) pe_int (fun _ _ => rfl)) (pa_cons (pe_ix (xK_list (K := K) rfl) (pv 1) pe_int (fun _ _ => rfl)) pa_nil))))))
        pss_nil)
      (pss_cons (ps_if (pt_cmpR op_eq (pe_callB (id := "len") (cK_len (K := K) rfl) (by rfl) T.z_len (by decide +kernel) (pa_cons (pv 1) pa_nil)) pe_int (nomark _))
        (pss_one (ps_ret (pe_callF G_middles (hr.mono (by decide)) T.F_middles.kp rfl T.g_middles pass0 (pa_cons (pv 0) (pa_cons (pe_ix (xK_list (K := K) rfl) (pv 1) pe_int (fun _ _ => rfl)) (pa_cons (pe_ix (xK_list (K := K) rfl) (pv 1) pe_int (fun _ _ => rfl)) (pa_cons (pe_ix (xK_list (K := K) rfl) (pv 1) pe_int (fun _ _ => rfl)) pa_nil)))))))
        pss_nil)
      (pss_one (ps_ret (pe_callF G_middles (hr.mono (by decide)) T.F_middles.kp rfl T.g_middles pass0 (pa_cons (pv 0) (pa_cons (pe_ix (xK_list (K := K) rfl) (pv 1) pe_int (fun _ _ => rfl)) (pa_cons (pe_ix (xK_list (K := K) rfl) (pv 1) pe_int (fun _ _ => rfl)) (pa_cons (pe_ix (xK_list (K := K) rfl) (pv 1) pe_int (fun _ _ => rfl)) (pa_cons (pe_ix (xK_list (K := K) rfl) (pv 1) pe_int (fun _ _ => rfl)) pa_nil)))))))))))), ?_⟩
    refine fn_run0 h (fun as d hp => ?_) fun as d hp => ?_
    · obtain ⟨_law_kind, _law_theories_here, rfl, rfl⟩ := hp; simp
    · obtain ⟨_law_kind, _law_theories_here, rfl, rfl⟩ := hp
      refine ⟨_, (show f__law_ask _law_kind _law_theories_here = Res.noerr _ from rfl), ?_⟩
      refine ws_seq ?_
      refine ws_ctx (Γ' := [.val ((yKind (A 28)) _law_kind), .val ((yLst K (yPr K (yTup K yStr) (yTup K (yTup K (yPr K yStr yInt))))) _law_theories_here)]) rfl ?_
      refine ws_if ?_
      refine wt_b ?_
      refine wx_op ?_
      refine wx_cb ?_
      refine wa_cons ?_
      refine wx_var rfl ?_
      refine ⟨_, rfl, ?_⟩
      refine wa_nil ?_
      refine rc_lenSq (pLst K) ?_
      rw [List.length_map]
      refine ⟨_, rfl, ?_⟩
      refine wx_int ?_
      refine ⟨_, rfl, ?_⟩
      refine rx_eq ?_
      refine ⟨_, rfl, ?_⟩
      refine ⟨_, _, rfl, ?_, ?_⟩
      · refine ws_ctx (Γ' := [.val ((yKind (A 28)) _law_kind), .val ((yLst K (yPr K (yTup K yStr) (yTup K (yTup K (yPr K yStr yInt))))) _law_theories_here)]) rfl ?_
        refine ws_ret ?_
        refine wx_callF ?_
        refine wa_cons ?_
        refine wx_var rfl ?_
        refine ⟨_, rfl, ?_⟩
        refine wa_nil ?_
        refine rc_star (K := K) (ps := []) [.val ((yKind (A 28)) _law_kind)] (show 0 ≤ 1000 by decide) ?_
        refine rc_call _ _ _ ⟨_law_kind, ([] : List ((List Str) × (List (List (Str × Int))))), rfl, rfl⟩ ⟨rfl, rfl, trivial⟩ (show List.Nodup ([] : List Nat) by decide) rfl (.inr fun _ z => noerr_ne z) fun r1 _ => ?_
        exact ⟨_, rfl, rfl, (by first | trivial | exact ⟨rfl, trivial⟩ | exact ⟨rfl, rfl, trivial⟩)⟩
      · refine ws_next ?_
        refine ws_seq ?_
        refine ws_ctx (Γ' := [.val ((yKind (A 28)) _law_kind), .val ((yLst K (yPr K (yTup K yStr) (yTup K (yTup K (yPr K yStr yInt))))) _law_theories_here)]) rfl ?_
        refine ws_if ?_
        refine wt_b ?_
        refine wx_op ?_
        refine wx_cb ?_
        refine wa_cons ?_
        refine wx_var rfl ?_
        refine ⟨_, rfl, ?_⟩
        refine wa_nil ?_
        refine rc_lenSq (pLst K) ?_
        rw [List.length_map]
        refine ⟨_, rfl, ?_⟩
        refine wx_int ?_
        refine ⟨_, rfl, ?_⟩
        refine rx_eq ?_
        refine ⟨_, rfl, ?_⟩
        refine ⟨_, _, rfl, ?_, ?_⟩
        · refine ws_ctx (Γ' := [.val ((yKind (A 28)) _law_kind), .val ((yLst K (yPr K (yTup K yStr) (yTup K (yTup K (yPr K yStr yInt))))) _law_theories_here)]) rfl ?_
          refine ws_ret ?_
          refine wx_callF ?_
          refine wa_cons ?_
          refine wx_var rfl ?_
          refine ⟨_, rfl, ?_⟩
          refine wa_cons ?_
          refine wx_op ?_
          refine wx_var rfl ?_
          refine ⟨_, rfl, ?_⟩
          refine wx_int ?_
          refine ⟨_, rfl, ?_⟩
          refine rx_ixLp (t := (yPr K (yTup K yStr) (yTup K (yTup K (yPr K yStr yInt))))) (xs := _law_theories_here) rfl fun r2 => ?_
          refine ⟨_, rfl, ?_⟩
          refine wa_nil ?_
          refine rc_star (K := K) (ps := [(yPr K (yTup K yStr) (yTup K (yTup K (yPr K yStr yInt)))) r2]) [.val ((yKind (A 28)) _law_kind)] (show 1 ≤ 1000 by decide) ?_
          refine rc_call _ _ _ ⟨_law_kind, ([r2] : List ((List Str) × (List (List (Str × Int))))), rfl, rfl⟩ ⟨rfl, rfl, trivial⟩ (show List.Nodup ([] : List Nat) by decide) rfl (.inr fun _ z => noerr_ne z) fun r3 _ => ?_
          exact ⟨_, rfl, rfl, (by first | trivial | exact ⟨rfl, trivial⟩ | exact ⟨rfl, rfl, trivial⟩)⟩
        · refine ws_next ?_
          refine ws_seq ?_
          refine ws_ctx (Γ' := [.val ((yKind (A 28)) _law_kind), .val ((yLst K (yPr K (yTup K yStr) (yTup K (yTup K (yPr K yStr yInt))))) _law_theories_here)]) rfl ?_
          refine ws_if ?_
          refine wt_b ?_
          refine wx_op ?_
          refine wx_cb ?_
          refine wa_cons ?_
          refine wx_var rfl ?_
          refine ⟨_, rfl, ?_⟩
          refine wa_nil ?_
          refine rc_lenSq (pLst K) ?_
          rw [List.length_map]
          refine ⟨_, rfl, ?_⟩
          refine wx_int ?_
          refine ⟨_, rfl, ?_⟩
          refine rx_eq ?_
          refine ⟨_, rfl, ?_⟩
          refine ⟨_, _, rfl, ?_, ?_⟩
          · refine ws_ctx (Γ' := [.val ((yKind (A 28)) _law_kind), .val ((yLst K (yPr K (yTup K yStr) (yTup K (yTup K (yPr K yStr yInt))))) _law_theories_here)]) rfl ?_
            refine ws_ret ?_
            refine wx_callF ?_
            refine wa_cons ?_
            refine wx_var rfl ?_
            refine ⟨_, rfl, ?_⟩
            refine wa_cons ?_
            refine wx_op ?_
            refine wx_var rfl ?_
            refine ⟨_, rfl, ?_⟩
            refine wx_int ?_
            refine ⟨_, rfl, ?_⟩
            refine rx_ixLp (t := (yPr K (yTup K yStr) (yTup K (yTup K (yPr K yStr yInt))))) (xs := _law_theories_here) rfl fun r4 => ?_
            refine ⟨_, rfl, ?_⟩
            refine wa_cons ?_
            refine wx_op ?_
            refine wx_var rfl ?_
            refine ⟨_, rfl, ?_⟩
            refine wx_int ?_
            refine ⟨_, rfl, ?_⟩
            refine rx_ixLp (t := (yPr K (yTup K yStr) (yTup K (yTup K (yPr K yStr yInt))))) (xs := _law_theories_here) rfl fun r5 => ?_
            refine ⟨_, rfl, ?_⟩
            refine wa_nil ?_
            refine rc_star (K := K) (ps := [(yPr K (yTup K yStr) (yTup K (yTup K (yPr K yStr yInt)))) r4, (yPr K (yTup K yStr) (yTup K (yTup K (yPr K yStr yInt)))) r5]) [.val ((yKind (A 28)) _law_kind)] (show 2 ≤ 1000 by decide) ?_
            obtain ⟨L9, hL9⟩ : ∃ L : List ((List Str) × (List (List (Str × Int)))), L = [r4, r5] := ⟨_, rfl⟩
            rw [← hL9]
            refine rc_call _ _ _ ⟨_law_kind, L9, rfl, rfl⟩ ⟨rfl, hL9 ▸ mTup_2 (K := K) (t := (yPr K (yTup K yStr) (yTup K (yTup K (yPr K yStr yInt))))), trivial⟩ (show List.Nodup ([] : List Nat) by decide) rfl (.inr fun _ z => noerr_ne z) fun r6 _ => ?_
            exact ⟨_, rfl, rfl, (by first | trivial | exact ⟨rfl, trivial⟩ | exact ⟨rfl, rfl, trivial⟩)⟩
          · refine ws_next ?_
            refine ws_seq ?_
            refine ws_ctx (Γ' := [.val ((yKind (A 28)) _law_kind), .val ((yLst K (yPr K (yTup K yStr) (yTup K (yTup K (yPr K yStr yInt))))) _law_theories_here)]) rfl ?_
            refine ws_if ?_
            refine wt_b ?_
            refine wx_op ?_
            refine wx_cb ?_
            refine wa_cons ?_
            refine wx_var rfl ?_
            refine ⟨_, rfl, ?_⟩
            refine wa_nil ?_
            refine rc_lenSq (pLst K) ?_
            rw [List.length_map]
            refine ⟨_, rfl, ?_⟩
            refine wx_int ?_
            refine ⟨_, rfl, ?_⟩
            refine rx_eq ?_
            refine ⟨_, rfl, ?_⟩
            refine ⟨_, _, rfl, ?_, ?_⟩
            · refine ws_ctx (Γ' := [.val ((yKind (A 28)) _law_kind), .val ((yLst K (yPr K (yTup K yStr) (yTup K (yTup K (yPr K yStr yInt))))) _law_theories_here)]) rfl ?_
              refine ws_ret ?_
              refine wx_callF ?_
              refine wa_cons ?_
              refine wx_var rfl ?_
              refine ⟨_, rfl, ?_⟩
              refine wa_cons ?_
              refine wx_op ?_
              refine wx_var rfl ?_
              refine ⟨_, rfl, ?_⟩
              refine wx_int ?_
              refine ⟨_, rfl, ?_⟩
              refine rx_ixLp (t := (yPr K (yTup K yStr) (yTup K (yTup K (yPr K yStr yInt))))) (xs := _law_theories_here) rfl fun r7 => ?_
              refine ⟨_, rfl, ?_⟩
              refine wa_cons ?_
              refine wx_op ?_
              refine wx_var rfl ?_
              refine ⟨_, rfl, ?_⟩
              refine wx_int ?_
              refine ⟨_, rfl, ?_⟩
              refine rx_ixLp (t := (yPr K (yTup K yStr) (yTup K (yTup K (yPr K yStr yInt))))) (xs := _law_theories_here) rfl fun r8 => ?_
              refine ⟨_, rfl, ?_⟩
              refine wa_cons ?_
              refine wx_op ?_
              refine wx_var rfl ?_
              refine ⟨_, rfl, ?_⟩
              refine wx_int ?_
              refine ⟨_, rfl, ?_⟩
              refine rx_ixLp (t := (yPr K (yTup K yStr) (yTup K (yTup K (yPr K yStr yInt))))) (xs := _law_theories_here) rfl fun r9 => ?_
              refine ⟨_, rfl, ?_⟩
              refine wa_nil ?_
              refine rc_star (K := K) (ps := [(yPr K (yTup K yStr) (yTup K (yTup K (yPr K yStr yInt)))) r7, (yPr K (yTup K yStr) (yTup K (yTup K (yPr K yStr yInt)))) r8, (yPr K (yTup K yStr) (yTup K (yTup K (yPr K yStr yInt)))) r9]) [.val ((yKind (A 28)) _law_kind)] (show 3 ≤ 1000 by decide) ?_
              obtain ⟨L9, hL9⟩ : ∃ L : List ((List Str) × (List (List (Str × Int)))), L = [r7, r8, r9] := ⟨_, rfl⟩
              rw [← hL9]
              refine rc_call _ _ _ ⟨_law_kind, L9, rfl, rfl⟩ ⟨rfl, hL9 ▸ mTup_3 (K := K) (t := (yPr K (yTup K yStr) (yTup K (yTup K (yPr K yStr yInt))))), trivial⟩ (show List.Nodup ([] : List Nat) by decide) rfl (.inr fun _ z => noerr_ne z) fun r10 _ => ?_
              exact ⟨_, rfl, rfl, (by first | trivial | exact ⟨rfl, trivial⟩ | exact ⟨rfl, rfl, trivial⟩)⟩
            · refine ws_next ?_
              refine ws_ctx (Γ' := [.val ((yKind (A 28)) _law_kind), .val ((yLst K (yPr K (yTup K yStr) (yTup K (yTup K (yPr K yStr yInt))))) _law_theories_here)]) rfl ?_
              refine ws_ret ?_
              refine wx_callF ?_
              refine wa_cons ?_
              refine wx_var rfl ?_
              refine ⟨_, rfl, ?_⟩
              refine wa_cons ?_
              refine wx_op ?_
              refine wx_var rfl ?_
              refine ⟨_, rfl, ?_⟩
              refine wx_int ?_
              refine ⟨_, rfl, ?_⟩
              refine rx_ixLp (t := (yPr K (yTup K yStr) (yTup K (yTup K (yPr K yStr yInt))))) (xs := _law_theories_here) rfl fun r11 => ?_
              refine ⟨_, rfl, ?_⟩
              refine wa_cons ?_
              refine wx_op ?_
              refine wx_var rfl ?_
              refine ⟨_, rfl, ?_⟩
              refine wx_int ?_
              refine ⟨_, rfl, ?_⟩
              refine rx_ixLp (t := (yPr K (yTup K yStr) (yTup K (yTup K (yPr K yStr yInt))))) (xs := _law_theories_here) rfl fun r12 => ?_
              refine ⟨_, rfl, ?_⟩
              refine wa_cons ?_
              refine wx_op ?_
              refine wx_var rfl ?_
              refine ⟨_, rfl, ?_⟩
              refine wx_int ?_
              refine ⟨_, rfl, ?_⟩
              refine rx_ixLp (t := (yPr K (yTup K yStr) (yTup K (yTup K (yPr K yStr yInt))))) (xs := _law_theories_here) rfl fun r13 => ?_
              refine ⟨_, rfl, ?_⟩
              refine wa_cons ?_
              refine wx_op ?_
              refine wx_var rfl ?_
              refine ⟨_, rfl, ?_⟩
              refine wx_int ?_
              refine ⟨_, rfl, ?_⟩
              refine rx_ixLp (t := (yPr K (yTup K yStr) (yTup K (yTup K (yPr K yStr yInt))))) (xs := _law_theories_here) rfl fun r14 => ?_
              refine ⟨_, rfl, ?_⟩
              refine wa_nil ?_
              refine rc_star (K := K) (ps := [(yPr K (yTup K yStr) (yTup K (yTup K (yPr K yStr yInt)))) r11, (yPr K (yTup K yStr) (yTup K (yTup K (yPr K yStr yInt)))) r12, (yPr K (yTup K yStr) (yTup K (yTup K (yPr K yStr yInt)))) r13, (yPr K (yTup K yStr) (yTup K (yTup K (yPr K yStr yInt)))) r14]) [.val ((yKind (A 28)) _law_kind)] (show 4 ≤ 1000 by decide) ?_
              obtain ⟨L9, hL9⟩ : ∃ L : List ((List Str) × (List (List (Str × Int)))), L = [r11, r12, r13, r14] := ⟨_, rfl⟩
              rw [← hL9]
              refine rc_call _ _ _ ⟨_law_kind, L9, rfl, rfl⟩ ⟨rfl, hL9 ▸ mTup_4 (K := K) (t := (yPr K (yTup K yStr) (yTup K (yTup K (yPr K yStr yInt))))), trivial⟩ (show List.Nodup ([] : List Nat) by decide) rfl (.inr fun _ z => noerr_ne z) fun r15 _ => ?_
              exact ⟨_, rfl, rfl, (by first | trivial | exact ⟨rfl, trivial⟩ | exact ⟨rfl, rfl, trivial⟩)⟩
def pre__law_right (K : PySem.W.Frag) (A : Nat → Addr) : List Ar → Cl → Prop := fun as d => ∃ (_law_actual : Dy) (_law_due_here : Dy), as = [.val ((yDy K) _law_actual), .val ((yDy K) _law_due_here)] ∧ d = ⟨(Bool), f__law_right _law_actual _law_due_here, fun r => .val (yBl r), fun r => []⟩
theorem ok__law_right (T : Txt K mg A D) : FnOk P w K mg base CX0 9 (A 45) (D 45) ["_law_actual", "_law_due_here"] (spM A (pre__law_right K A)) := by
  refine T.F__law_right.ok sc__law_right (fun vs H Q E h => ?_) (fun cdv A' outer s H vs Q E hr h => ?_)
  · exact spM_len h fun as d hp => by obtain ⟨_law_actual, _law_due_here, rfl, rfl⟩ := hp; rfl
  · have hu := hu_of hr
    have G__law_exact : FnOk P w K mg base CX0 8 (A 34) (D 34) ["_law_actual", "_law_due_here"] (spM A (pre__law_exact K A 7)) := ok__law_exact T 7
    refine ⟨_, (pss_cons (ps_if (pt_cmpR op_isN (pv 1) pe_non (nomark _))
        (pss_one (ps_ret (pe_cmpR op_isN (pv 0) pe_non (nomark _))))
        pss_nil)
      (pss_one (ps_ret (pe_call G__law_exact (hr.mono (by decide)) rfl T.g__law_exact T.F__law_exact.kp T.b__law_exact .nil pass0 (pa_cons (pv 0) (pa_cons (pv 1) pa_nil)))))), ?_⟩
    refine fn_run0 h (fun as d hp => ?_) fun as d hp => ?_
    · obtain ⟨_law_actual, _law_due_here, rfl, rfl⟩ := hp; simp
    · obtain ⟨_law_actual, _law_due_here, rfl, rfl⟩ := hp
      refine ⟨_, (show f__law_right _law_actual _law_due_here = Res.noerr _ from rfl), ?_⟩
      refine ws_seq ?_
      refine ws_ctx (Γ' := [.val ((yDy K) _law_actual), .val ((yDy K) _law_due_here)]) rfl ?_
      refine ws_if ?_
      refine wt_b ?_
      refine wx_op ?_
      refine wx_var rfl ?_
      refine ⟨_, rfl, ?_⟩
      refine wx_non ?_
      refine ⟨_, rfl, ?_⟩
      refine rx_isDy (K := K) ?_
      refine ⟨_, rfl, ?_⟩
      refine ⟨_, _, rfl, ?_, ?_⟩
      · refine ws_ctx (Γ' := [.val ((yDy K) _law_actual), .val ((yDy K) _law_due_here)]) rfl ?_
        refine ws_ret ?_
        refine wx_op ?_
        refine wx_var rfl ?_
        refine ⟨_, rfl, ?_⟩
        refine wx_non ?_
        refine ⟨_, rfl, ?_⟩
        refine rx_isDy (K := K) ?_
        exact ⟨_, rfl, rfl, (by first | trivial | exact ⟨rfl, trivial⟩ | exact ⟨rfl, rfl, trivial⟩)⟩
      · refine ws_next ?_
        refine ws_ctx (Γ' := [.val ((yDy K) _law_actual), .val ((yDy K) _law_due_here)]) rfl ?_
        refine ws_ret ?_
        refine wx_call ?_
        refine wa_cons ?_
        refine wx_var rfl ?_
        refine ⟨_, rfl, ?_⟩
        refine wa_cons ?_
        refine wx_var rfl ?_
        refine ⟨_, rfl, ?_⟩
        refine wa_nil ?_
        refine rc_call _ _ _ ⟨_law_actual, _law_due_here, rfl, rfl⟩ ⟨rfl, rfl, trivial⟩ (show List.Nodup ([] : List Nat) by decide) rfl (.inr fun _ z => f__law_exact_r_ne z) fun r1 _ => ?_
        exact ⟨_, rfl, rfl, (by first | trivial | exact ⟨rfl, trivial⟩ | exact ⟨rfl, rfl, trivial⟩)⟩
def pre_law (K : PySem.W.Frag) (A : Nat → Addr) : List Ar → Cl → Prop := fun as d => ∃ (_law_script : (List Int)), as = [.val ((yLst K yInt) _law_script)] ∧ d = ⟨(Bool), f_law _law_script, fun r => .val (yBl r), fun r => []⟩
theorem ok_lawM (T : Txt K mg A D) : FnOk P w K mg base CX0 10 (A 46) (D 46) ["_law_script"] (spM A (pre_law K A)) := by
  refine T.F_law.ok sc_law (fun vs H Q E h => ?_) (fun cdv A' outer s H vs Q E hr h => ?_)
  · exact spM_len h fun as d hp => by obtain ⟨_law_script, rfl, rfl⟩ := hp; rfl
  · have hu := hu_of hr
    have G__law_theories : FnOk P w K mg base CX0 4 (A 39) (D 39) ["_law_script"] (spM A (pre__law_theories K A)) := ok__law_theories T
    have G__law_right : FnOk P w K mg base CX0 9 (A 45) (D 45) ["_law_actual", "_law_due_here"] (spM A (pre__law_right K A)) := ok__law_right T
    have G__law_due : FnOk P w K mg base CX0 3 (A 43) (D 43) ["_law_theories_here"] (spM A (pre__law_due K A)) := ok__law_due T
    have G__law_ask : FnOk P w K mg base CX0 8 (A 44) (D 44) ["_law_kind", "_law_theories_here"] (spM A (pre__law_ask K A)) := ok__law_ask T
    have G_middle : FnOk P w K mg base CX0 8 (A 16) (D 16) ["kind", "first", "second"] (spM A (pre_middle K A)) := ok_middle T
    refine ⟨_, (pss_cons (ps_set (i := 1) sc_law.nd rfl (Or.inl rfl) (pe_makeP T.mp_Bits rfl T.g_Bits))
      (pss_cons (ps_set (i := 2) sc_law.nd rfl (Or.inl rfl) (pe_call G__law_theories (hr.mono (by decide)) rfl T.g__law_theories T.F__law_theories.kp T.b__law_theories .nil pass0 (pa_cons (pv 0) pa_nil)))
      (pss_cons (ps_if (pt_not (pt_val (pe_call G__law_right (hr.mono (by decide)) rfl T.g__law_right T.F__law_right.kp T.b__law_right .nil pass0 (pa_cons (pe_call G__law_ask (hr.mono (by decide)) rfl T.g__law_ask T.F__law_ask.kp T.b__law_ask .nil pass0 (pa_cons (pv 1) (pa_cons (pv 2) pa_nil))) (pa_cons (pe_call G__law_due (hr.mono (by decide)) rfl T.g__law_due T.F__law_due.kp T.b__law_due .nil pass0 (pa_cons (pv 2) pa_nil)) pa_nil)))))
        (pss_one (ps_ret pe_bl))
        pss_nil)
      (pss_cons (ps_set (i := 3) sc_law.nd rfl (Or.inl rfl) (pe_revL (pv 2)))
      (pss_cons (ps_if (pt_not (pt_val (pe_call G__law_right (hr.mono (by decide)) rfl T.g__law_right T.F__law_right.kp T.b__law_right .nil pass0 (pa_cons (pe_call G__law_ask (hr.mono (by decide)) rfl T.g__law_ask T.F__law_ask.kp T.b__law_ask .nil pass0 (pa_cons (pv 1) (pa_cons (pv 3) pa_nil))) (pa_cons (pe_call G__law_due (hr.mono (by decide)) rfl T.g__law_due T.F__law_due.kp T.b__law_due .nil pass0 (pa_cons (pv 3) pa_nil)) pa_nil)))))
        (pss_one (ps_ret pe_bl))
        pss_nil)
      (pss_cons (ps_for PassesOwn.never rfl (iK_list (K := K) rfl (pe_op (op_catS (K := K) rfl) (pv 2) (pe_lst (pa_cons (pe_tup (pa_cons (pe_tup pa_nil) (pa_cons (pe_tup pa_nil) pa_nil))) pa_nil)))) (pg_name (i := 4) sc_law.nd rfl (Or.inl rfl))
        (pss_cons (ps_set (i := 5) sc_law.nd rfl (Or.inl rfl) (pe_tup (pa_cons (pe_ix (xK_tup (K := K) rfl) (pv 4) pe_int (fun _ _ => rfl)) (pa_cons (pe_op (oK_catA (K := K) rfl) (pe_ix (xK_tup (K := K) rfl) (pv 4) pe_int (fun _ _ => rfl)) (pe_tup (pa_cons (pe_tup pa_nil) pa_nil))) pa_nil))))
        (pss_one (ps_if (PW.pt (pw_or (pt_not (pt_val (pe_call G__law_right (hr.mono (by decide)) rfl T.g__law_right T.F__law_right.kp T.b__law_right .nil pass0 (pa_cons (pe_call G__law_ask (hr.mono (by decide)) rfl T.g__law_ask T.F__law_ask.kp T.b__law_ask .nil pass0 (pa_cons (pv 1) (pa_cons (pe_lst (pa_cons (pv 4) pa_nil)) pa_nil))) (pa_cons (pe_call G__law_due (hr.mono (by decide)) rfl T.g__law_due T.F__law_due.kp T.b__law_due .nil pass0 (pa_cons (pe_lst (pa_cons (pv 4) pa_nil)) pa_nil)) pa_nil))))) (pw_or1 (pt_not (pt_val (pe_call G__law_right (hr.mono (by decide)) rfl T.g__law_right T.F__law_right.kp T.b__law_right .nil pass0 (pa_cons (pe_call G__law_ask (hr.mono (by decide)) rfl T.g__law_ask T.F__law_ask.kp T.b__law_ask .nil pass0 (pa_cons (pv 1) (pa_cons (pe_lst (pa_cons (pv 5) pa_nil)) pa_nil))) (pa_cons (pe_tup pa_nil) pa_nil))))))))
          (pss_one (ps_ret pe_bl))
          pss_nil))))
      (pss_cons (ps_for PassesOwn.never rfl (iK_list (K := K) rfl (pe_lst (pa_cons (pe_slice (sK_list (K := K) rfl) (pv 2) po_none (po_some pe_int)) (pa_cons (pe_slice (sK_list (K := K) rfl) (pv 2) (po_some (pe_un un_neg pe_int)) po_none) (pa_cons (pe_slice (sK_list (K := K) rfl) (pv 3) po_none (po_some pe_int)) pa_nil))))) (pg_name (i := 6) sc_law.nd rfl (Or.inl rfl))
        (pss_one (ps_if (pt_cmpR op_eq (pe_callB (id := "len") (cK_len (K := K) rfl) (by rfl) T.z_len (by decide +kernel) (pa_cons (pv 6) pa_nil)) pe_int (nomark _))
          (pss_cons (ps_set (i := 7) sc_law.nd rfl (Or.inl rfl) (pe_call G__law_due (hr.mono (by decide)) rfl T.g__law_due T.F__law_due.kp T.b__law_due .nil pass0 (pa_cons (pv 6) pa_nil)))
          (pss_cons (ps_if (pt_cmpR op_notN (pv 7) pe_non (nomark _))
            (pss_one (ps_set (i := 7) sc_law.nd rfl (Or.inl rfl) (pe_ix (xK_tup (K := K) rfl) (pv 7) pe_int (fun _ _ => rfl))))
            pss_nil)
          (pss_one (ps_if (pt_not (pt_val (pe_call G__law_right (hr.mono (by decide)) rfl T.g__law_right T.F__law_right.kp T.b__law_right .nil pass0 (pa_cons (pe_call G_middle (hr.mono (by decide)) rfl T.g_middle T.F_middle.kp T.b_middle .nil pass0 (pa_cons (pv 1) (pa_cons (pe_ix (xK_list (K := K) rfl) (pv 6) pe_int (fun _ _ => rfl)) (pa_cons (pe_ix (xK_list (K := K) rfl) (pv 6) pe_int (fun _ _ => rfl)) pa_nil)))) (pa_cons (pv 7) pa_nil)))))
            (pss_one (ps_ret pe_bl))
            pss_nil))))
          pss_nil)))
      (pss_one (ps_ret pe_bl))))))))), ?_⟩
    refine fn_run0 h (fun as d hp => ?_) fun as d hp => ?_
    · obtain ⟨_law_script, rfl, rfl⟩ := hp; simp
    · obtain ⟨_law_script, rfl, rfl⟩ := hp
      refine ⟨_, (show f_law _law_script = Res.noerr _ from rfl), ?_⟩
      refine ws_seq ?_
      refine ws_ctx (Γ' := [.val ((yLst K yInt) _law_script), .any, .any, .any, .any, .any, .any, .any]) rfl ?_
      refine ws_setL (yKind (A 28)) ?_
      refine wx_makeP ?_
      refine ⟨(), _, rfl, show 1 < 8 by decide, rfl, fun _law_kind => ?_⟩
      refine ws_seq ?_
      refine ws_ctx (Γ' := [.val ((yLst K yInt) _law_script), .val ((yKind (A 28)) _law_kind), .any, .any, .any, .any, .any, .any]) rfl ?_
      refine ws_setL (yLst K (yPr K (yTup K yStr) (yTup K (yTup K (yPr K yStr yInt))))) ?_
      refine wx_call ?_
      refine wa_cons ?_
      refine wx_var rfl ?_
      refine ⟨_, rfl, ?_⟩
      refine wa_nil ?_
      refine rc_call _ _ _ ⟨_law_script, rfl, rfl⟩ ⟨rfl, trivial⟩ (show List.Nodup ([] : List Nat) by decide) rfl (.inr fun _ z => by first | exact noerr_ne z | exact (nomatch z)) fun r1 _ => ?_
      refine ⟨r1, _, rfl, show 2 < 8 by decide, rfl, fun _law_theories_here => ?_⟩
      refine ws_seq ?_
      refine ws_ctx (Γ' := [.val ((yLst K yInt) _law_script), .val ((yKind (A 28)) _law_kind), .val ((yLst K (yPr K (yTup K yStr) (yTup K (yTup K (yPr K yStr yInt))))) _law_theories_here), .any, .any, .any, .any, .any]) rfl ?_
      refine ws_if ?_
      refine wt_not ?_
      refine wt_b ?_
      refine wx_call ?_
      refine wa_cons ?_
      refine wx_toDy (K := K) (yOpt (yTup K (yPr K (yTup K yStr) (yTup K (yTup K (yPr K yStr yInt)))))) (Nat.le_of_ble_eq_true rfl) ?_
      refine wx_call ?_
      refine wa_cons ?_
      refine wx_var rfl ?_
      refine ⟨_, rfl, ?_⟩
      refine wa_cons ?_
      refine wx_var rfl ?_
      refine ⟨_, rfl, ?_⟩
      refine wa_nil ?_
      refine rc_call _ _ _ ⟨_law_kind, _law_theories_here, rfl, rfl⟩ ⟨rfl, rfl, trivial⟩ (show List.Nodup ([] : List Nat) by decide) rfl (.inr fun _ z => by first | exact noerr_ne z | exact (nomatch z)) fun r2 _ => ?_
      refine ⟨r2, rfl, ?_⟩
      refine ⟨_, rfl, ?_⟩
      refine wa_cons ?_
      refine wx_toDy (K := K) (yOpt (yTup K (yPr K (yTup K yStr) (yTup K (yTup K (yPr K yStr yInt)))))) (Nat.le_of_ble_eq_true rfl) ?_
      refine wx_call ?_
      refine wa_cons ?_
      refine wx_var rfl ?_
      refine ⟨_, rfl, ?_⟩
      refine wa_nil ?_
      refine rc_call _ _ _ ⟨_law_theories_here, rfl, rfl⟩ ⟨rfl, trivial⟩ (show List.Nodup ([] : List Nat) by decide) rfl (.inr fun _ z => by first | exact noerr_ne z | exact (nomatch z)) fun r3 _ => ?_
      refine ⟨r3, rfl, ?_⟩
      refine ⟨_, rfl, ?_⟩
      refine wa_nil ?_
      refine rc_call _ _ _ ⟨(Dy.opt r2 fun z => (Dy.tup (z.map fun z => (Dy.tup [(Dy.tup (z.1.map fun z => (Dy.str z))), (Dy.tup (z.2.map fun z => (Dy.tup (z.map fun z => (Dy.tup [(Dy.str z.1), (Dy.int z.2)])))))])))), (Dy.opt r3 fun z => (Dy.tup (z.map fun z => (Dy.tup [(Dy.tup (z.1.map fun z => (Dy.str z))), (Dy.tup (z.2.map fun z => (Dy.tup (z.map fun z => (Dy.tup [(Dy.str z.1), (Dy.int z.2)])))))])))), rfl, rfl⟩ ⟨rfl, rfl, trivial⟩ (show List.Nodup ([] : List Nat) by decide) rfl (.inr fun _ z => by first | exact noerr_ne z | exact (nomatch z)) fun r4 _ => ?_
      refine ⟨_, rfl, ?_⟩
      refine ⟨_, _, rfl, ?_, ?_⟩
      · refine ws_ctx (Γ' := [.val ((yLst K yInt) _law_script), .val ((yKind (A 28)) _law_kind), .val ((yLst K (yPr K (yTup K yStr) (yTup K (yTup K (yPr K yStr yInt))))) _law_theories_here), .any, .any, .any, .any, .any]) rfl ?_
        refine ws_ret ?_
        refine wx_bl ?_
        exact ⟨_, rfl, rfl, (by first | trivial | exact ⟨rfl, trivial⟩ | exact ⟨rfl, rfl, trivial⟩)⟩
      · refine ws_next ?_
        refine ws_seq ?_
        refine ws_ctx (Γ' := [.val ((yLst K yInt) _law_script), .val ((yKind (A 28)) _law_kind), .val ((yLst K (yPr K (yTup K yStr) (yTup K (yTup K (yPr K yStr yInt))))) _law_theories_here), .any, .any, .any, .any, .any]) rfl ?_
        refine ws_setL (yLst K (yPr K (yTup K yStr) (yTup K (yTup K (yPr K yStr yInt))))) ?_
        refine wx_fz ?_
        refine wx_revL (K := K) (yPr K (yTup K yStr) (yTup K (yTup K (yPr K yStr yInt)))) ?_
        refine wx_var rfl ?_
        refine ⟨_law_theories_here, rfl, ?_⟩
        refine ⟨_, rfl, ?_⟩
        refine ⟨(_law_theories_here.reverse), _, rfl, show 3 < 8 by decide, rfl, fun _law_turned => ?_⟩
        refine ws_seq ?_
        refine ws_ctx (Γ' := [.val ((yLst K yInt) _law_script), .val ((yKind (A 28)) _law_kind), .val ((yLst K (yPr K (yTup K yStr) (yTup K (yTup K (yPr K yStr yInt))))) _law_theories_here), .val ((yLst K (yPr K (yTup K yStr) (yTup K (yTup K (yPr K yStr yInt))))) _law_turned), .any, .any, .any, .any]) rfl ?_
        refine ws_if ?_
        refine wt_not ?_
        refine wt_b ?_
        refine wx_call ?_
        refine wa_cons ?_
        refine wx_toDy (K := K) (yOpt (yTup K (yPr K (yTup K yStr) (yTup K (yTup K (yPr K yStr yInt)))))) (Nat.le_of_ble_eq_true rfl) ?_
        refine wx_call ?_
        refine wa_cons ?_
        refine wx_var rfl ?_
        refine ⟨_, rfl, ?_⟩
        refine wa_cons ?_
        refine wx_var rfl ?_
        refine ⟨_, rfl, ?_⟩
        refine wa_nil ?_
        refine rc_call _ _ _ ⟨_law_kind, _law_turned, rfl, rfl⟩ ⟨rfl, rfl, trivial⟩ (show List.Nodup ([] : List Nat) by decide) rfl (.inr fun _ z => by first | exact noerr_ne z | exact (nomatch z)) fun r5 _ => ?_
        refine ⟨r5, rfl, ?_⟩
        refine ⟨_, rfl, ?_⟩
        refine wa_cons ?_
        refine wx_toDy (K := K) (yOpt (yTup K (yPr K (yTup K yStr) (yTup K (yTup K (yPr K yStr yInt)))))) (Nat.le_of_ble_eq_true rfl) ?_
        refine wx_call ?_
        refine wa_cons ?_
        refine wx_var rfl ?_
        refine ⟨_, rfl, ?_⟩
        refine wa_nil ?_
        refine rc_call _ _ _ ⟨_law_turned, rfl, rfl⟩ ⟨rfl, trivial⟩ (show List.Nodup ([] : List Nat) by decide) rfl (.inr fun _ z => by first | exact noerr_ne z | exact (nomatch z)) fun r6 _ => ?_
        refine ⟨r6, rfl, ?_⟩
        refine ⟨_, rfl, ?_⟩
        refine wa_nil ?_
        refine rc_call _ _ _ ⟨(Dy.opt r5 fun z => (Dy.tup (z.map fun z => (Dy.tup [(Dy.tup (z.1.map fun z => (Dy.str z))), (Dy.tup (z.2.map fun z => (Dy.tup (z.map fun z => (Dy.tup [(Dy.str z.1), (Dy.int z.2)])))))])))), (Dy.opt r6 fun z => (Dy.tup (z.map fun z => (Dy.tup [(Dy.tup (z.1.map fun z => (Dy.str z))), (Dy.tup (z.2.map fun z => (Dy.tup (z.map fun z => (Dy.tup [(Dy.str z.1), (Dy.int z.2)])))))])))), rfl, rfl⟩ ⟨rfl, rfl, trivial⟩ (show List.Nodup ([] : List Nat) by decide) rfl (.inr fun _ z => by first | exact noerr_ne z | exact (nomatch z)) fun r7 _ => ?_
        refine ⟨_, rfl, ?_⟩
        refine ⟨_, _, rfl, ?_, ?_⟩
        · refine ws_ctx (Γ' := [.val ((yLst K yInt) _law_script), .val ((yKind (A 28)) _law_kind), .val ((yLst K (yPr K (yTup K yStr) (yTup K (yTup K (yPr K yStr yInt))))) _law_theories_here), .val ((yLst K (yPr K (yTup K yStr) (yTup K (yTup K (yPr K yStr yInt))))) _law_turned), .any, .any, .any, .any]) rfl ?_
          refine ws_ret ?_
          refine wx_bl ?_
          exact ⟨_, rfl, rfl, (by first | trivial | exact ⟨rfl, trivial⟩ | exact ⟨rfl, rfl, trivial⟩)⟩
        · refine ws_next ?_
          refine ws_seq ?_
          refine ws_ctx (Γ' := [.val ((yLst K yInt) _law_script), .val ((yKind (A 28)) _law_kind), .val ((yLst K (yPr K (yTup K yStr) (yTup K (yTup K (yPr K yStr yInt))))) _law_theories_here), .val ((yLst K (yPr K (yTup K yStr) (yTup K (yTup K (yPr K yStr yInt))))) _law_turned), .any, .any, .any, .any]) rfl ?_
          refine ws_forF (μ := Unit) (τ := (Bool)) (yPr K (yTup K yStr) (yTup K (yTup K (yPr K yStr yInt)))) ?_
          refine wi_list ?_
          refine wx_fz ?_
          refine wx_op ?_
          refine wx_var rfl ?_
          refine ⟨_, rfl, ?_⟩
          refine wx_fz ?_
          refine wx_lst (K := K) ?_
          refine wa_cons ?_
          refine wx_tup (K := K) ?_
          refine wa_cons ?_
          refine wx_tup (K := K) ?_
          refine wa_nil ?_
          refine ⟨[], rfl, show 0 ≤ 1000 by decide, ?_⟩
          refine ⟨_, rfl, ?_⟩
          refine wa_cons ?_
          refine wx_tup (K := K) ?_
          refine wa_nil ?_
          refine ⟨[], rfl, show 0 ≤ 1000 by decide, ?_⟩
          refine ⟨_, rfl, ?_⟩
          refine wa_nil ?_
          refine ⟨[(yTup K yStr) ([] : (List Str)), (yTup K (yTup K (yPr K yStr yInt))) ([] : (List (List (Str × Int))))], rfl, show 2 ≤ 1000 by decide, ?_⟩
          refine ⟨_, rfl, ?_⟩
          refine wa_nil ?_
          refine ⟨[(yPr K (yTup K yStr) (yTup K (yTup K (yPr K yStr yInt)))) (([] : (List Str)), ([] : (List (List (Str × Int)))))], rfl, show 1 ≤ 1000 by decide, ?_⟩
          refine ⟨_, rfl, ?_⟩
          refine ⟨_, rfl, ?_⟩
          refine rx_catL (t := (yPr K (yTup K yStr) (yTup K (yTup K (yPr K yStr yInt))))) (xs := _law_theories_here) (ys := ([(([] : (List Str)), ([] : (List (List (Str × Int)))))] : List ((List Str) × (List (List (Str × Int)))))) rfl ?_
          refine ⟨_, rfl, ?_⟩
          refine ⟨_, rfl, ?_⟩
          refine ⟨_, (fun s1 : Unit => [.val ((yLst K yInt) _law_script), .val ((yKind (A 28)) _law_kind), .val ((yLst K (yPr K (yTup K yStr) (yTup K (yTup K (yPr K yStr yInt))))) _law_theories_here), .val ((yLst K (yPr K (yTup K yStr) (yTup K (yTup K (yPr K yStr yInt))))) _law_turned), .any, .any, .any, .any]), (_law_theories_here ++ ([(([] : (List Str)), ([] : (List (List (Str × Int)))))] : List ((List Str) × (List (List (Str × Int)))))), _, _, _, rfl, rfl, by walk_at "subc", fun s1 q1 => ?_, fun s1 => ?_⟩
          · refine wg_name (show 4 < 8 by decide) ?_
            refine ws_seq ?_
            refine ws_ctx (Γ' := [.val ((yLst K yInt) _law_script), .val ((yKind (A 28)) _law_kind), .val ((yLst K (yPr K (yTup K yStr) (yTup K (yTup K (yPr K yStr yInt))))) _law_theories_here), .val ((yLst K (yPr K (yTup K yStr) (yTup K (yTup K (yPr K yStr yInt))))) _law_turned), .val ((yPr K (yTup K yStr) (yTup K (yTup K (yPr K yStr yInt)))) q1), .any, .any, .any]) rfl ?_
            refine ws_setL (yPr K (yTup K yStr) (yTup K (yTup K (yPr K yStr yInt)))) ?_
            refine wx_tup (K := K) ?_
            refine wa_cons ?_
            refine wx_op ?_
            refine wx_var rfl ?_
            refine ⟨_, rfl, ?_⟩
            refine wx_int ?_
            refine ⟨_, rfl, ?_⟩
            refine rx_ixT rfl ?_
            refine ⟨_, rfl, ?_⟩
            refine wa_cons ?_
            refine wx_op ?_
            refine wx_op ?_
            refine wx_var rfl ?_
            refine ⟨_, rfl, ?_⟩
            refine wx_int ?_
            refine ⟨_, rfl, ?_⟩
            refine rx_ixT rfl ?_
            refine ⟨_, rfl, ?_⟩
            refine wx_tup (K := K) ?_
            refine wa_cons ?_
            refine wx_tup (K := K) ?_
            refine wa_nil ?_
            refine ⟨[], rfl, show 0 ≤ 1000 by decide, ?_⟩
            refine ⟨_, rfl, ?_⟩
            refine wa_nil ?_
            refine ⟨[(yTup K (yPr K yStr yInt)) ([] : (List (Str × Int)))], rfl, show 1 ≤ 1000 by decide, ?_⟩
            refine ⟨_, rfl, ?_⟩
            refine rx_catT (t := (yTup K (yPr K yStr yInt))) (xs := q1.2) (ys := ([([] : (List (Str × Int)))] : (List (List (Str × Int))))) rfl ?_
            refine ⟨_, rfl, ?_⟩
            refine wa_nil ?_
            refine ⟨[(yTup K yStr) q1.1, (yTup K (yTup K (yPr K yStr yInt))) (q1.2 ++ ([([] : (List (Str × Int)))] : (List (List (Str × Int)))))], rfl, show 2 ≤ 1000 by decide, ?_⟩
            refine ⟨(q1.1, (q1.2 ++ ([([] : (List (Str × Int)))] : (List (List (Str × Int)))))), _, rfl, show 5 < 8 by decide, rfl, fun _law_broken => ?_⟩
            refine ws_ctx (Γ' := [.val ((yLst K yInt) _law_script), .val ((yKind (A 28)) _law_kind), .val ((yLst K (yPr K (yTup K yStr) (yTup K (yTup K (yPr K yStr yInt))))) _law_theories_here), .val ((yLst K (yPr K (yTup K yStr) (yTup K (yTup K (yPr K yStr yInt))))) _law_turned), .val ((yPr K (yTup K yStr) (yTup K (yTup K (yPr K yStr yInt)))) q1), .val ((yPr K (yTup K yStr) (yTup K (yTup K (yPr K yStr yInt)))) _law_broken), .any, .any]) rfl ?_
            refine ws_if ?_
            refine wt_orM (μ := Unit) ?_
            refine wt_not ?_
            refine wt_b ?_
            refine wx_call ?_
            refine wa_cons ?_
            refine wx_toDy (K := K) (yOpt (yTup K (yPr K (yTup K yStr) (yTup K (yTup K (yPr K yStr yInt)))))) (Nat.le_of_ble_eq_true rfl) ?_
            refine wx_call ?_
            refine wa_cons ?_
            refine wx_var rfl ?_
            refine ⟨_, rfl, ?_⟩
            refine wa_cons ?_
            refine wx_fz ?_
            refine wx_lst (K := K) ?_
            refine wa_cons ?_
            refine wx_var rfl ?_
            refine ⟨_, rfl, ?_⟩
            refine wa_nil ?_
            refine ⟨[(yPr K (yTup K yStr) (yTup K (yTup K (yPr K yStr yInt)))) q1], rfl, show 1 ≤ 1000 by decide, ?_⟩
            refine ⟨_, rfl, ?_⟩
            refine ⟨_, rfl, ?_⟩
            refine wa_nil ?_
            refine rc_call _ _ _ ⟨_law_kind, ([q1] : List ((List Str) × (List (List (Str × Int))))), rfl, rfl⟩ ⟨rfl, rfl, trivial⟩ (show List.Nodup ([] : List Nat) by decide) rfl (.inr fun _ z => by first | exact noerr_ne z | exact (nomatch z)) fun r10 _ => ?_
            refine ⟨r10, rfl, ?_⟩
            refine ⟨_, rfl, ?_⟩
            refine wa_cons ?_
            refine wx_toDy (K := K) (yOpt (yTup K (yPr K (yTup K yStr) (yTup K (yTup K (yPr K yStr yInt)))))) (Nat.le_of_ble_eq_true rfl) ?_
            refine wx_call ?_
            refine wa_cons ?_
            refine wx_fz ?_
            refine wx_lst (K := K) ?_
            refine wa_cons ?_
            refine wx_var rfl ?_
            refine ⟨_, rfl, ?_⟩
            refine wa_nil ?_
            refine ⟨[(yPr K (yTup K yStr) (yTup K (yTup K (yPr K yStr yInt)))) q1], rfl, show 1 ≤ 1000 by decide, ?_⟩
            refine ⟨_, rfl, ?_⟩
            refine ⟨_, rfl, ?_⟩
            refine wa_nil ?_
            refine rc_call _ _ _ ⟨([q1] : List ((List Str) × (List (List (Str × Int))))), rfl, rfl⟩ ⟨rfl, trivial⟩ (show List.Nodup ([] : List Nat) by decide) rfl (.inr fun _ z => by first | exact noerr_ne z | exact (nomatch z)) fun r11 _ => ?_
            refine ⟨r11, rfl, ?_⟩
            refine ⟨_, rfl, ?_⟩
            refine wa_nil ?_
            refine rc_call _ _ _ ⟨(Dy.opt r10 fun z => (Dy.tup (z.map fun z => (Dy.tup [(Dy.tup (z.1.map fun z => (Dy.str z))), (Dy.tup (z.2.map fun z => (Dy.tup (z.map fun z => (Dy.tup [(Dy.str z.1), (Dy.int z.2)])))))])))), (Dy.opt r11 fun z => (Dy.tup (z.map fun z => (Dy.tup [(Dy.tup (z.1.map fun z => (Dy.str z))), (Dy.tup (z.2.map fun z => (Dy.tup (z.map fun z => (Dy.tup [(Dy.str z.1), (Dy.int z.2)])))))])))), rfl, rfl⟩ ⟨rfl, rfl, trivial⟩ (show List.Nodup ([] : List Nat) by decide) rfl (.inr fun _ z => by first | exact noerr_ne z | exact (nomatch z)) fun r12 _ => ?_
            refine ⟨_, rfl, ?_⟩
            refine ⟨(fun s2 : Unit => [.val ((yLst K yInt) _law_script), .val ((yKind (A 28)) _law_kind), .val ((yLst K (yPr K (yTup K yStr) (yTup K (yTup K (yPr K yStr yInt))))) _law_theories_here), .val ((yLst K (yPr K (yTup K yStr) (yTup K (yTup K (yPr K yStr yInt))))) _law_turned), .val ((yPr K (yTup K yStr) (yTup K (yTup K (yPr K yStr yInt)))) q1), .val ((yPr K (yTup K yStr) (yTup K (yTup K (yPr K yStr yInt)))) _law_broken), .any, .any]), _, (), _, rfl, by walk_at "subc", fun _ => ?_, fun r15 => ?_⟩
            · refine wt_not ?_
              refine wt_b ?_
              refine wx_call ?_
              refine wa_cons ?_
              refine wx_toDy (K := K) (yOpt (yTup K (yPr K (yTup K yStr) (yTup K (yTup K (yPr K yStr yInt)))))) (Nat.le_of_ble_eq_true rfl) ?_
              refine wx_call ?_
              refine wa_cons ?_
              refine wx_var rfl ?_
              refine ⟨_, rfl, ?_⟩
              refine wa_cons ?_
              refine wx_fz ?_
              refine wx_lst (K := K) ?_
              refine wa_cons ?_
              refine wx_var rfl ?_
              refine ⟨_, rfl, ?_⟩
              refine wa_nil ?_
              refine ⟨[(yPr K (yTup K yStr) (yTup K (yTup K (yPr K yStr yInt)))) _law_broken], rfl, show 1 ≤ 1000 by decide, ?_⟩
              refine ⟨_, rfl, ?_⟩
              refine ⟨_, rfl, ?_⟩
              refine wa_nil ?_
              refine rc_call _ _ _ ⟨_law_kind, ([_law_broken] : List ((List Str) × (List (List (Str × Int))))), rfl, rfl⟩ ⟨rfl, rfl, trivial⟩ (show List.Nodup ([] : List Nat) by decide) rfl (.inr fun _ z => by first | exact noerr_ne z | exact (nomatch z)) fun r13 _ => ?_
              refine ⟨r13, rfl, ?_⟩
              refine ⟨_, rfl, ?_⟩
              refine wa_cons ?_
              refine wx_tupA (K := K) ?_
              refine wx_tup (K := K) ?_
              refine wa_nil ?_
              refine ⟨[], rfl, show 0 ≤ 1000 by decide, ?_⟩
              refine ⟨[], rfl, rfl, ?_⟩
              refine ⟨_, rfl, ?_⟩
              refine wa_nil ?_
              refine rc_call _ _ _ ⟨(Dy.opt r13 fun z => (Dy.tup (z.map fun z => (Dy.tup [(Dy.tup (z.1.map fun z => (Dy.str z))), (Dy.tup (z.2.map fun z => (Dy.tup (z.map fun z => (Dy.tup [(Dy.str z.1), (Dy.int z.2)])))))])))), (Dy.tup []), rfl, rfl⟩ ⟨rfl, rfl, trivial⟩ (show List.Nodup ([] : List Nat) by decide) rfl (.inr fun _ z => by first | exact noerr_ne z | exact (nomatch z)) fun r14 _ => ?_
              refine ⟨_, rfl, ?_⟩
              exact ⟨_, rfl, by walk_at "subc"⟩
            refine ⟨_, _, rfl, ?_, ?_⟩
            · refine ws_ctx (Γ' := [.val ((yLst K yInt) _law_script), .val ((yKind (A 28)) _law_kind), .val ((yLst K (yPr K (yTup K yStr) (yTup K (yTup K (yPr K yStr yInt))))) _law_theories_here), .val ((yLst K (yPr K (yTup K yStr) (yTup K (yTup K (yPr K yStr yInt))))) _law_turned), .val ((yPr K (yTup K yStr) (yTup K (yTup K (yPr K yStr yInt)))) q1), .val ((yPr K (yTup K yStr) (yTup K (yTup K (yPr K yStr yInt)))) _law_broken), .any, .any]) rfl ?_
              refine ws_ret ?_
              refine wx_bl ?_
              refine ⟨_, rfl, ?_⟩
              exact ⟨_, rfl, rfl, (by first | trivial | exact ⟨rfl, trivial⟩ | exact ⟨rfl, rfl, trivial⟩)⟩
            · refine ws_next ?_
              exact ⟨_, rfl, by walk_at "subc"⟩
          refine ws_seq ?_
          refine ws_ctx (Γ' := [.val ((yLst K yInt) _law_script), .val ((yKind (A 28)) _law_kind), .val ((yLst K (yPr K (yTup K yStr) (yTup K (yTup K (yPr K yStr yInt))))) _law_theories_here), .val ((yLst K (yPr K (yTup K yStr) (yTup K (yTup K (yPr K yStr yInt))))) _law_turned), .any, .any, .any, .any]) rfl ?_
          refine ws_forF (μ := Unit) (τ := (Bool)) (yLst K (yPr K (yTup K yStr) (yTup K (yTup K (yPr K yStr yInt))))) ?_
          refine wi_list ?_
          refine wx_fz ?_
          refine wx_lst (K := K) ?_
          refine wa_cons ?_
          refine wx_fz ?_
          refine wx_slL ?_
          refine wx_var rfl ?_
          refine ⟨_, rfl, ?_⟩
          refine wo_no ?_
          refine wo_some ?_
          refine wx_int ?_
          refine ⟨_, rfl, ?_⟩
          rw [pcut_map]
          refine ⟨_, rfl, ?_⟩
          refine ⟨_, rfl, ?_⟩
          refine wa_cons ?_
          refine wx_fz ?_
          refine wx_slL ?_
          refine wx_var rfl ?_
          refine ⟨_, rfl, ?_⟩
          refine wo_some ?_
          refine wx_un ?_
          refine wx_int ?_
          refine ⟨_, rfl, ?_⟩
          refine ru_neg ?_
          refine ⟨_, rfl, ?_⟩
          refine wo_no ?_
          rw [pcut_map]
          refine ⟨_, rfl, ?_⟩
          refine ⟨_, rfl, ?_⟩
          refine wa_cons ?_
          refine wx_fz ?_
          refine wx_slL ?_
          refine wx_var rfl ?_
          refine ⟨_, rfl, ?_⟩
          refine wo_no ?_
          refine wo_some ?_
          refine wx_int ?_
          refine ⟨_, rfl, ?_⟩
          rw [pcut_map]
          refine ⟨_, rfl, ?_⟩
          refine ⟨_, rfl, ?_⟩
          refine wa_nil ?_
          refine ⟨[(yLst K (yPr K (yTup K yStr) (yTup K (yTup K (yPr K yStr yInt))))) (pcut _law_theories_here none (some (2 : Int))), (yLst K (yPr K (yTup K yStr) (yTup K (yTup K (yPr K yStr yInt))))) (pcut _law_theories_here (some (-(2 : Int))) none), (yLst K (yPr K (yTup K yStr) (yTup K (yTup K (yPr K yStr yInt))))) (pcut _law_turned none (some (2 : Int)))], rfl, show 3 ≤ 1000 by decide, ?_⟩
          refine ⟨_, rfl, ?_⟩
          refine ⟨_, rfl, ?_⟩
          refine ⟨_, (fun s3 : Unit => [.val ((yLst K yInt) _law_script), .val ((yKind (A 28)) _law_kind), .val ((yLst K (yPr K (yTup K yStr) (yTup K (yTup K (yPr K yStr yInt))))) _law_theories_here), .val ((yLst K (yPr K (yTup K yStr) (yTup K (yTup K (yPr K yStr yInt))))) _law_turned), .any, .any, .any, .any]), ([(pcut _law_theories_here none (some (2 : Int))), (pcut _law_theories_here (some (-(2 : Int))) none), (pcut _law_turned none (some (2 : Int)))] : List (List ((List Str) × (List (List (Str × Int)))))), _, _, _, rfl, rfl, by walk_at "subc", fun s3 q2 => ?_, fun s3 => ?_⟩
          · refine wg_name (show 6 < 8 by decide) ?_
            refine ws_ctx (Γ' := [.val ((yLst K yInt) _law_script), .val ((yKind (A 28)) _law_kind), .val ((yLst K (yPr K (yTup K yStr) (yTup K (yTup K (yPr K yStr yInt))))) _law_theories_here), .val ((yLst K (yPr K (yTup K yStr) (yTup K (yTup K (yPr K yStr yInt))))) _law_turned), .any, .any, .val ((yLst K (yPr K (yTup K yStr) (yTup K (yTup K (yPr K yStr yInt))))) q2), .any]) rfl ?_
            refine ws_if ?_
            refine wt_b ?_
            refine wx_op ?_
            refine wx_cb ?_
            refine wa_cons ?_
            refine wx_var rfl ?_
            refine ⟨_, rfl, ?_⟩
            refine wa_nil ?_
            refine rc_lenSq (pLst K) ?_
            rw [List.length_map]
            refine ⟨_, rfl, ?_⟩
            refine wx_int ?_
            refine ⟨_, rfl, ?_⟩
            refine rx_eq ?_
            refine ⟨_, rfl, ?_⟩
            refine ⟨_, _, rfl, ?_, ?_⟩
            · refine ws_seq ?_
              refine ws_ctx (Γ' := [.val ((yLst K yInt) _law_script), .val ((yKind (A 28)) _law_kind), .val ((yLst K (yPr K (yTup K yStr) (yTup K (yTup K (yPr K yStr yInt))))) _law_theories_here), .val ((yLst K (yPr K (yTup K yStr) (yTup K (yTup K (yPr K yStr yInt))))) _law_turned), .any, .any, .val ((yLst K (yPr K (yTup K yStr) (yTup K (yTup K (yPr K yStr yInt))))) q2), .any]) rfl ?_
              refine ws_setL (yDy K) ?_
              refine wx_toDy (K := K) (yOpt (yTup K (yPr K (yTup K yStr) (yTup K (yTup K (yPr K yStr yInt)))))) (Nat.le_of_ble_eq_true rfl) ?_
              refine wx_call ?_
              refine wa_cons ?_
              refine wx_var rfl ?_
              refine ⟨_, rfl, ?_⟩
              refine wa_nil ?_
              refine rc_call _ _ _ ⟨q2, rfl, rfl⟩ ⟨rfl, trivial⟩ (show List.Nodup ([] : List Nat) by decide) rfl (.inr fun _ z => by first | exact noerr_ne z | exact (nomatch z)) fun r16 _ => ?_
              refine ⟨r16, rfl, ?_⟩
              refine ⟨(Dy.opt r16 fun z => (Dy.tup (z.map fun z => (Dy.tup [(Dy.tup (z.1.map fun z => (Dy.str z))), (Dy.tup (z.2.map fun z => (Dy.tup (z.map fun z => (Dy.tup [(Dy.str z.1), (Dy.int z.2)])))))])))), _, rfl, show 7 < 8 by decide, rfl, fun _law_due_here => ?_⟩
              refine ws_seq ?_
              refine ws_ctx (Γ' := [.val ((yLst K yInt) _law_script), .val ((yKind (A 28)) _law_kind), .val ((yLst K (yPr K (yTup K yStr) (yTup K (yTup K (yPr K yStr yInt))))) _law_theories_here), .val ((yLst K (yPr K (yTup K yStr) (yTup K (yTup K (yPr K yStr yInt))))) _law_turned), .any, .any, .val ((yLst K (yPr K (yTup K yStr) (yTup K (yTup K (yPr K yStr yInt))))) q2), .val ((yDy K) _law_due_here)]) rfl ?_
              refine ws_blk (fun s4 : (Dy) => [.val ((yLst K yInt) _law_script), .val ((yKind (A 28)) _law_kind), .val ((yLst K (yPr K (yTup K yStr) (yTup K (yTup K (yPr K yStr yInt))))) _law_theories_here), .val ((yLst K (yPr K (yTup K yStr) (yTup K (yTup K (yPr K yStr yInt))))) _law_turned), .any, .any, .val ((yLst K (yPr K (yTup K yStr) (yTup K (yTup K (yPr K yStr yInt))))) q2), .val ((yDy K) s4)]) rfl ?_ ?_
              · refine ws_if ?_
                refine wt_b ?_
                refine wx_op ?_
                refine wx_var rfl ?_
                refine ⟨_, rfl, ?_⟩
                refine wx_non ?_
                refine ⟨_, rfl, ?_⟩
                refine rx_notDy (K := K) ?_
                refine ⟨_, rfl, ?_⟩
                refine ⟨_, _, rfl, ?_, ?_⟩
                · refine ws_ctx (Γ' := [.val ((yLst K yInt) _law_script), .val ((yKind (A 28)) _law_kind), .val ((yLst K (yPr K (yTup K yStr) (yTup K (yTup K (yPr K yStr yInt))))) _law_theories_here), .val ((yLst K (yPr K (yTup K yStr) (yTup K (yTup K (yPr K yStr yInt))))) _law_turned), .any, .any, .val ((yLst K (yPr K (yTup K yStr) (yTup K (yTup K (yPr K yStr yInt))))) q2), .val ((yDy K) _law_due_here)]) rfl ?_
                  refine ws_setL (yDy K) ?_
                  refine wx_op ?_
                  refine wx_var rfl ?_
                  refine ⟨_, rfl, ?_⟩
                  refine wx_int ?_
                  refine ⟨_, rfl, ?_⟩
                  refine rx_ixDy (K := K) (d := _law_due_here) rfl fun r17 => ?_
                  refine ⟨r17, _, rfl, show 7 < 8 by decide, rfl, fun _law_due_here => ?_⟩
                  exact ⟨_, rfl, by walk_at "subc"⟩
                · refine ws_next ?_
                  exact ⟨_, rfl, by walk_at "subc"⟩
              intro s4
              refine ws_ctx (Γ' := [.val ((yLst K yInt) _law_script), .val ((yKind (A 28)) _law_kind), .val ((yLst K (yPr K (yTup K yStr) (yTup K (yTup K (yPr K yStr yInt))))) _law_theories_here), .val ((yLst K (yPr K (yTup K yStr) (yTup K (yTup K (yPr K yStr yInt))))) _law_turned), .any, .any, .val ((yLst K (yPr K (yTup K yStr) (yTup K (yTup K (yPr K yStr yInt))))) q2), .val ((yDy K) s4)]) rfl ?_
              refine ws_if ?_
              refine wt_not ?_
              refine wt_b ?_
              refine wx_call ?_
              refine wa_cons ?_
              refine wx_toDy (K := K) (yOpt (yPr K (yTup K yStr) (yTup K (yTup K (yPr K yStr yInt))))) (Nat.le_of_ble_eq_true rfl) ?_
              refine wx_call ?_
              refine wa_cons ?_
              refine wx_var rfl ?_
              refine ⟨_, rfl, ?_⟩
              refine wa_cons ?_
              refine wx_op ?_
              refine wx_var rfl ?_
              refine ⟨_, rfl, ?_⟩
              refine wx_int ?_
              refine ⟨_, rfl, ?_⟩
              refine rx_ixLp (t := (yPr K (yTup K yStr) (yTup K (yTup K (yPr K yStr yInt))))) (xs := q2) rfl fun r18 => ?_
              refine ⟨_, rfl, ?_⟩
              refine wa_cons ?_
              refine wx_op ?_
              refine wx_var rfl ?_
              refine ⟨_, rfl, ?_⟩
              refine wx_int ?_
              refine ⟨_, rfl, ?_⟩
              refine rx_ixLp (t := (yPr K (yTup K yStr) (yTup K (yTup K (yPr K yStr yInt))))) (xs := q2) rfl fun r19 => ?_
              refine ⟨_, rfl, ?_⟩
              refine wa_nil ?_
              refine rc_call _ _ _ ⟨_law_kind, r18, r19, rfl, rfl⟩ ⟨rfl, rfl, rfl, trivial⟩ (show List.Nodup ([] : List Nat) by decide) rfl (.inr fun _ z => by first | exact noerr_ne z | exact (nomatch z)) fun r20 _ => ?_
              refine ⟨r20, rfl, ?_⟩
              refine ⟨_, rfl, ?_⟩
              refine wa_cons ?_
              refine wx_var rfl ?_
              refine ⟨_, rfl, ?_⟩
              refine wa_nil ?_
              refine rc_call _ _ _ ⟨(Dy.opt r20 fun z => (Dy.tup [(Dy.tup (z.1.map fun z => (Dy.str z))), (Dy.tup (z.2.map fun z => (Dy.tup (z.map fun z => (Dy.tup [(Dy.str z.1), (Dy.int z.2)])))))])), s4, rfl, rfl⟩ ⟨rfl, rfl, trivial⟩ (show List.Nodup ([] : List Nat) by decide) rfl (.inr fun _ z => by first | exact noerr_ne z | exact (nomatch z)) fun r21 _ => ?_
              refine ⟨_, rfl, ?_⟩
              refine ⟨_, _, rfl, ?_, ?_⟩
              · refine ws_ctx (Γ' := [.val ((yLst K yInt) _law_script), .val ((yKind (A 28)) _law_kind), .val ((yLst K (yPr K (yTup K yStr) (yTup K (yTup K (yPr K yStr yInt))))) _law_theories_here), .val ((yLst K (yPr K (yTup K yStr) (yTup K (yTup K (yPr K yStr yInt))))) _law_turned), .any, .any, .val ((yLst K (yPr K (yTup K yStr) (yTup K (yTup K (yPr K yStr yInt))))) q2), .val ((yDy K) s4)]) rfl ?_
                refine ws_ret ?_
                refine wx_bl ?_
                refine ⟨_, rfl, ?_⟩
                exact ⟨_, rfl, rfl, (by first | trivial | exact ⟨rfl, trivial⟩ | exact ⟨rfl, rfl, trivial⟩)⟩
              · refine ws_next ?_
                exact ⟨_, rfl, by walk_at "subc"⟩
            · refine ws_next ?_
              exact ⟨_, rfl, by walk_at "subc"⟩
          refine ws_ctx (Γ' := [.val ((yLst K yInt) _law_script), .val ((yKind (A 28)) _law_kind), .val ((yLst K (yPr K (yTup K yStr) (yTup K (yTup K (yPr K yStr yInt))))) _law_theories_here), .val ((yLst K (yPr K (yTup K yStr) (yTup K (yTup K (yPr K yStr yInt))))) _law_turned), .any, .any, .any, .any]) rfl ?_
          refine ws_ret ?_
          refine wx_bl ?_
          exact ⟨_, rfl, rfl, (by first | trivial | exact ⟨rfl, trivial⟩ | exact ⟨rfl, rfl, trivial⟩)⟩
end
def sp_law (K : PySem.W.Frag) : Sp := fun vs H Q _ => ∃ (a : Addr) (ns : List Int), vs = [.ref a] ∧ SqL K H a (ns.map V.int) ∧ ns.length ≤ 63 ∧ ∀ H', Q (.bl true) H'
section
variable {P : Program} {w : World} {K : PySem.W.Frag} {mg : Str → Option Value} {base : Heap} {A : Nat → Addr} {D : Nat → FuncData}
theorem ok_law (T : Txt K mg A D) : FnOk P w K mg base CX0 10 (A 46) (D 46) ["_law_script"] (sp_law K) := FnOk.imp (ok_lawM T) fun vs H Q E h => law_imp (fun ns => ⟨ns, rfl, rfl⟩) (fun ns hn => law_pure hn) h
end
theorem all_mk {l : PySem.W.OpenLaw} {w : World} {K : PySem.W.Frag} {h : Heap} {mg : Str → Option Value} {fa : Addr} (X : K.In h) (G : h.Ns mainGlobals mg) (hfa : mg "law" = some (.ref fa))
    {f2 : Addr} (a2 : PySem.W.nsIn K mainGlobals "ShadowError" = some (some (.ref f2)))
    {f3 : Addr} (a3 : PySem.W.nsIn K mainGlobals "NoSolution" = some (some (.ref f3)))
    (ex_3 : PySem.W.excIn K f3 [.type "ValueError", .type "Exception", .type "BaseException", .type "object"] "ValueError.__new__" = true)
    (kC_3 : PySem.W.keepIn K (.ref f3) = true)
    (tC_3 : PySem.W.typeIn K (.ref f3) = some (.type "type"))
    (ga_3 : PySem.W.findIn K (.ref f3) "__getattribute__" = some (some (.builtin "BaseException.__getattribute__")))
    (gg_3 : PySem.W.findIn K (.ref f3) "__getattr__" = some none)
    (eC_3 : PySem.W.subIn K (.ref f3) (.type "BaseException") = some true)
    (hC_3 : PySem.W.hasDictIn K f3 = true)
    (isa_3 : PySem.W.findIn K (.ref f3) "__class__" = some (some (.builtin "object.__class__")))
    (isn_3 : PySem.W.specialIn K (.builtin "object.__class__") "__get__" = some (some (.builtin "getset_descriptor.__get__")))
    (ist_3 : PySem.W.takesIn K (.builtin "object.__class__") = some true)
    (ism_3 : PySem.W.mroIn K f3 (.type "object") = some true)
    (sb_3_2 : PySem.W.subIn K (.ref f3) (.ref f2) = some true) (ki_3_2 : PySem.W.kitOne K (.ref f3) (.ref f2) = some true)
    (eC_2 : PySem.W.subIn K (.ref f2) (.type "BaseException") = some true)
    (tC_2 : PySem.W.typeIn K (.ref f2) = some (.type "type"))
    (hC_2 : PySem.W.hasDictIn K f2 = true)
    (sb_3_3 : PySem.W.subIn K (.ref f3) (.ref f3) = some true) (ki_3_3 : PySem.W.kitOne K (.ref f3) (.ref f3) = some true)
    (kv_3 : PySem.W.kitOne K (.ref f3) (.type "ValueError") = some true)
    {f26 : Addr}
    (a26 : PySem.W.nsIn K mainGlobals "Kind" = some (some (.ref f26)))
    (pg26 : PySem.W.plainGet K f26 Str.empty = true)
    (hd26 : PySem.W.hasDictIn K f26 = true)
    (po26 : PySem.W.plainOver K f26 = true)
    (os26 : PySem.W.findIn K (.ref f26) "__setattr__" = some (some (.builtin "object.__setattr__")))
    (rd26 : PySem.W.readsIn K f26 (.type "type") = true)
    (og26 : PySem.W.specialIn K (.ref f26) "__getattribute__" = some (some (.builtin "type.__getattribute__")))
    (sf26 : PySem.W.selfFirst K f26 = true)
    (mk26 : PySem.W.makesIn K f26 = true)
    (oi26 : PySem.W.findIn K (.ref f26) "__init__" = some (some (.builtin "object.__init__")))
    (kp26 : PySem.W.keepIn K (.ref f26) = true)
    {f28 : Addr}
    (a28 : PySem.W.nsIn K mainGlobals "Bits" = some (some (.ref f28)))
    (pg28 : PySem.W.plainGet K f28 Str.empty = true)
    (hd28 : PySem.W.hasDictIn K f28 = true)
    (po28 : PySem.W.plainOver K f28 = true)
    (os28 : PySem.W.findIn K (.ref f28) "__setattr__" = some (some (.builtin "object.__setattr__")))
    (rd28 : PySem.W.readsIn K f28 (.type "type") = true)
    (og28 : PySem.W.specialIn K (.ref f28) "__getattribute__" = some (some (.builtin "type.__getattribute__")))
    (sf28 : PySem.W.selfFirst K f28 = true)
    (mk28 : PySem.W.makesIn K f28 = true)
    (oi28 : PySem.W.findIn K (.ref f28) "__init__" = some (some (.builtin "object.__init__")))
    (kp28 : PySem.W.keepIn K (.ref f28) = true)
    {oc1563 kV1563 dc1563 pm1563 cd1563 ct1563 : Value} {od1563 an1563 : Option Addr} {sl1563 : Array (Option Value)} {f1563 : Addr}
    (at1563 : PySem.W.findIn K (.ref f28) "holds" = some (some (.ref f1563)))
    (fn1563 : PySem.W.isFn K (.ref f1563) = true)
    (l1563 : K.lookup f1563 = some ⟨oc1563, od1563, .func (PySem.W.fnOf "holds" "Bits.holds" (defArgs (topM 28 3)) (defBody (topM 28 3)) (defScope (topM 28 3)) .none kV1563 dc1563 pm1563 an1563 cd1563 ct1563), sl1563⟩)
    (c1563 : PySem.W.codeIn K cd1563 "Bits.holds" = true)
    (k1563 : PySem.W.keepIn K (.ref f1563) = true)
    {oc1566 kV1566 dc1566 pm1566 cd1566 ct1566 : Value} {od1566 an1566 : Option Addr} {sl1566 : Array (Option Value)} {f1566 : Addr}
    (at1566 : PySem.W.findIn K (.ref f28) "eliminate" = some (some (.ref f1566)))
    (fn1566 : PySem.W.isFn K (.ref f1566) = true)
    (l1566 : K.lookup f1566 = some ⟨oc1566, od1566, .func (PySem.W.fnOf "eliminate" "Bits.eliminate" (defArgs (topM 28 6)) (defBody (topM 28 6)) (defScope (topM 28 6)) .none kV1566 dc1566 pm1566 an1566 cd1566 ct1566), sl1566⟩)
    (c1566 : PySem.W.codeIn K cd1566 "Bits.eliminate" = true)
    (k1566 : PySem.W.keepIn K (.ref f1566) = true)
    {oc1567 kV1567 dc1567 pm1567 cd1567 ct1567 : Value} {od1567 an1567 : Option Addr} {sl1567 : Array (Option Value)} {f1567 : Addr}
    (at1567 : PySem.W.findIn K (.ref f28) "lift" = some (some (.ref f1567)))
    (fn1567 : PySem.W.isFn K (.ref f1567) = true)
    (l1567 : K.lookup f1567 = some ⟨oc1567, od1567, .func (PySem.W.fnOf "lift" "Bits.lift" (defArgs (topM 28 7)) (defBody (topM 28 7)) (defScope (topM 28 7)) .none kV1567 dc1567 pm1567 an1567 cd1567 ct1567), sl1567⟩)
    (c1567 : PySem.W.codeIn K cd1567 "Bits.lift" = true)
    (k1567 : PySem.W.keepIn K (.ref f1567) = true)
    {oc1568 kV1568 dc1568 pm1568 cd1568 ct1568 : Value} {od1568 an1568 : Option Addr} {sl1568 : Array (Option Value)} {f1568 : Addr}
    (at1568 : PySem.W.findIn K (.ref f28) "ground" = some (some (.ref f1568)))
    (fn1568 : PySem.W.isFn K (.ref f1568) = true)
    (l1568 : K.lookup f1568 = some ⟨oc1568, od1568, .func (PySem.W.fnOf "ground" "Bits.ground" (defArgs (topM 28 8)) (defBody (topM 28 8)) (defScope (topM 28 8)) .none kV1568 dc1568 pm1568 an1568 cd1568 ct1568), sl1568⟩)
    (c1568 : PySem.W.codeIn K cd1568 "Bits.ground" = true)
    (k1568 : PySem.W.keepIn K (.ref f1568) = true)
    {oc1569 kV1569 dc1569 pm1569 cd1569 ct1569 : Value} {od1569 an1569 : Option Addr} {sl1569 : Array (Option Value)} {f1569 : Addr}
    (at1569 : PySem.W.findIn K (.ref f28) "normal" = some (some (.ref f1569)))
    (fn1569 : PySem.W.isFn K (.ref f1569) = true)
    (l1569 : K.lookup f1569 = some ⟨oc1569, od1569, .func (PySem.W.fnOf "normal" "Bits.normal" (defArgs (topM 28 9)) (defBody (topM 28 9)) (defScope (topM 28 9)) .none kV1569 dc1569 pm1569 an1569 cd1569 ct1569), sl1569⟩)
    (c1569 : PySem.W.codeIn K cd1569 "Bits.normal" = true)
    (k1569 : PySem.W.keepIn K (.ref f1569) = true)
    {oc5 kV5 dc5 pm5 cd5 ct5 : Value} {od5 an5 : Option Addr} {sl5 : Array (Option Value)} {f5 : Addr}
    (a5 : PySem.W.nsIn K mainGlobals "merge_names" = some (some (.ref f5))) (l5 : K.lookup f5 = some ⟨oc5, od5, .func (PySem.W.fnOf "merge_names" "merge_names" (defArgs (topS 5)) (defBody (topS 5)) (defScope (topS 5)) .none kV5 dc5 pm5 an5 cd5 ct5), sl5⟩) (c5 : PySem.W.codeIn K cd5 "merge_names" = true) (k5 : PySem.W.keepIn K (.ref f5) = true)
    {oc6 kV6 dc6 pm6 cd6 ct6 : Value} {od6 an6 : Option Addr} {sl6 : Array (Option Value)} {f6 : Addr}
    (a6 : PySem.W.nsIn K mainGlobals "drop_name" = some (some (.ref f6))) (l6 : K.lookup f6 = some ⟨oc6, od6, .func (PySem.W.fnOf "drop_name" "drop_name" (defArgs (topS 6)) (defBody (topS 6)) (defScope (topS 6)) .none kV6 dc6 pm6 an6 cd6 ct6), sl6⟩) (c6 : PySem.W.codeIn K cd6 "drop_name" = true) (k6 : PySem.W.keepIn K (.ref f6) = true)
    {oc8 kV8 dc8 pm8 cd8 ct8 : Value} {od8 an8 : Option Addr} {sl8 : Array (Option Value)} {f8 : Addr}
    (a8 : PySem.W.nsIn K mainGlobals "satisfies" = some (some (.ref f8))) (l8 : K.lookup f8 = some ⟨oc8, od8, .func (PySem.W.fnOf "satisfies" "satisfies" (defArgs (topS 8)) (defBody (topS 8)) (defScope (topS 8)) .none kV8 dc8 pm8 an8 cd8 ct8), sl8⟩) (c8 : PySem.W.codeIn K cd8 "satisfies" = true) (k8 : PySem.W.keepIn K (.ref f8) = true)
    {oc9 kV9 dc9 pm9 cd9 ct9 : Value} {od9 an9 : Option Addr} {sl9 : Array (Option Value)} {f9 : Addr}
    (a9 : PySem.W.nsIn K mainGlobals "shadow" = some (some (.ref f9))) (l9 : K.lookup f9 = some ⟨oc9, od9, .func (PySem.W.fnOf "shadow" "shadow" (defArgs (topS 9)) (defBody (topS 9)) (defScope (topS 9)) .none kV9 dc9 pm9 an9 cd9 ct9), sl9⟩) (c9 : PySem.W.codeIn K cd9 "shadow" = true) (k9 : PySem.W.keepIn K (.ref f9) = true)
    {oc10 kV10 dc10 pm10 cd10 ct10 : Value} {od10 an10 : Option Addr} {sl10 : Array (Option Value)} {f10 : Addr}
    (a10 : PySem.W.nsIn K mainGlobals "eliminated" = some (some (.ref f10))) (l10 : K.lookup f10 = some ⟨oc10, od10, .func (PySem.W.fnOf "eliminated" "eliminated" (defArgs (topS 10)) (defBody (topS 10)) (defScope (topS 10)) .none kV10 dc10 pm10 an10 cd10 ct10), sl10⟩) (c10 : PySem.W.codeIn K cd10 "eliminated" = true) (k10 : PySem.W.keepIn K (.ref f10) = true)
    {oc11 kV11 dc11 pm11 cd11 ct11 : Value} {od11 an11 : Option Addr} {sl11 : Array (Option Value)} {f11 : Addr}
    (a11 : PySem.W.nsIn K mainGlobals "lifted" = some (some (.ref f11))) (l11 : K.lookup f11 = some ⟨oc11, od11, .func (PySem.W.fnOf "lifted" "lifted" (defArgs (topS 11)) (defBody (topS 11)) (defScope (topS 11)) .none kV11 dc11 pm11 an11 cd11 ct11), sl11⟩) (c11 : PySem.W.codeIn K cd11 "lifted" = true) (k11 : PySem.W.keepIn K (.ref f11) = true)
    {oc12 kV12 dc12 pm12 cd12 ct12 : Value} {od12 an12 : Option Addr} {sl12 : Array (Option Value)} {f12 : Addr}
    (a12 : PySem.W.nsIn K mainGlobals "solve" = some (some (.ref f12))) (l12 : K.lookup f12 = some ⟨oc12, od12, .func (PySem.W.fnOf "solve" "solve" (defArgs (topS 12)) (defBody (topS 12)) (defScope (topS 12)) .none kV12 dc12 pm12 an12 cd12 ct12), sl12⟩) (c12 : PySem.W.codeIn K cd12 "solve" = true) (k12 : PySem.W.keepIn K (.ref f12) = true)
    {oc14 kV14 dc14 pm14 cd14 ct14 : Value} {od14 an14 : Option Addr} {sl14 : Array (Option Value)} {f14 : Addr}
    (a14 : PySem.W.nsIn K mainGlobals "join" = some (some (.ref f14))) (l14 : K.lookup f14 = some ⟨oc14, od14, .func (PySem.W.fnOf "join" "join" (defArgs (topS 14)) (defBody (topS 14)) (defScope (topS 14)) .none kV14 dc14 pm14 an14 cd14 ct14), sl14⟩) (c14 : PySem.W.codeIn K cd14 "join" = true) (k14 : PySem.W.keepIn K (.ref f14) = true)
    {oc16 kV16 dc16 pm16 cd16 ct16 : Value} {od16 an16 : Option Addr} {sl16 : Array (Option Value)} {f16 : Addr}
    (a16 : PySem.W.nsIn K mainGlobals "middle" = some (some (.ref f16))) (l16 : K.lookup f16 = some ⟨oc16, od16, .func (PySem.W.fnOf "middle" "middle" (defArgs (topS 16)) (defBody (topS 16)) (defScope (topS 16)) .none kV16 dc16 pm16 an16 cd16 ct16), sl16⟩) (c16 : PySem.W.codeIn K cd16 "middle" = true) (k16 : PySem.W.keepIn K (.ref f16) = true)
    {oc17 kV17 dc17 pm17 cd17 ct17 : Value} {od17 an17 : Option Addr} {sl17 : Array (Option Value)} {f17 : Addr}
    (a17 : PySem.W.nsIn K mainGlobals "middles" = some (some (.ref f17))) (l17 : K.lookup f17 = some ⟨oc17, od17, .func (PySem.W.fnOf "middles" "middles" (defArgs (topS 17)) (defBody (topS 17)) (defScope (topS 17)) .none kV17 dc17 pm17 an17 cd17 ct17), sl17⟩) (c17 : PySem.W.codeIn K cd17 "middles" = true) (k17 : PySem.W.keepIn K (.ref f17) = true)
    {oc19 kV19 dc19 pm19 cd19 ct19 : Value} {od19 an19 : Option Addr} {sl19 : Array (Option Value)} {f19 : Addr}
    (a19 : PySem.W.nsIn K mainGlobals "contains" = some (some (.ref f19))) (l19 : K.lookup f19 = some ⟨oc19, od19, .func (PySem.W.fnOf "contains" "contains" (defArgs (topS 19)) (defBody (topS 19)) (defScope (topS 19)) .none kV19 dc19 pm19 an19 cd19 ct19), sl19⟩) (c19 : PySem.W.codeIn K cd19 "contains" = true) (k19 : PySem.W.keepIn K (.ref f19) = true)
    {oc20 kV20 dc20 pm20 cd20 ct20 : Value} {od20 an20 : Option Addr} {sl20 : Array (Option Value)} {f20 : Addr}
    (a20 : PySem.W.nsIn K mainGlobals "least_clauses" = some (some (.ref f20))) (l20 : K.lookup f20 = some ⟨oc20, od20, .func (PySem.W.fnOf "least_clauses" "least_clauses" (defArgs (topS 20)) (defBody (topS 20)) (defScope (topS 20)) .none kV20 dc20 pm20 an20 cd20 ct20), sl20⟩) (c20 : PySem.W.codeIn K cd20 "least_clauses" = true) (k20 : PySem.W.keepIn K (.ref f20) = true)
    {oc21 kV21 dc21 pm21 cd21 ct21 : Value} {od21 an21 : Option Addr} {sl21 : Array (Option Value)} {f21 : Addr}
    (a21 : PySem.W.nsIn K mainGlobals "resolvent" = some (some (.ref f21))) (l21 : K.lookup f21 = some ⟨oc21, od21, .func (PySem.W.fnOf "resolvent" "resolvent" (defArgs (topS 21)) (defBody (topS 21)) (defScope (topS 21)) .none kV21 dc21 pm21 an21 cd21 ct21), sl21⟩) (c21 : PySem.W.codeIn K cd21 "resolvent" = true) (k21 : PySem.W.keepIn K (.ref f21) = true)
    {oc22 kV22 dc22 pm22 cd22 ct22 : Value} {od22 an22 : Option Addr} {sl22 : Array (Option Value)} {f22 : Addr}
    (a22 : PySem.W.nsIn K mainGlobals "resolvents" = some (some (.ref f22))) (l22 : K.lookup f22 = some ⟨oc22, od22, .func (PySem.W.fnOf "resolvents" "resolvents" (defArgs (topS 22)) (defBody (topS 22)) (defScope (topS 22)) .none kV22 dc22 pm22 an22 cd22 ct22), sl22⟩) (c22 : PySem.W.codeIn K cd22 "resolvents" = true) (k22 : PySem.W.keepIn K (.ref f22) = true)
    {oc23 kV23 dc23 pm23 cd23 ct23 : Value} {od23 an23 : Option Addr} {sl23 : Array (Option Value)} {f23 : Addr}
    (a23 : PySem.W.nsIn K mainGlobals "eliminate_name" = some (some (.ref f23))) (l23 : K.lookup f23 = some ⟨oc23, od23, .func (PySem.W.fnOf "eliminate_name" "eliminate_name" (defArgs (topS 23)) (defBody (topS 23)) (defScope (topS 23)) .none kV23 dc23 pm23 an23 cd23 ct23), sl23⟩) (c23 : PySem.W.codeIn K cd23 "eliminate_name" = true) (k23 : PySem.W.keepIn K (.ref f23) = true)
    {oc24 kV24 dc24 pm24 cd24 ct24 : Value} {od24 an24 : Option Addr} {sl24 : Array (Option Value)} {f24 : Addr}
    (a24 : PySem.W.nsIn K mainGlobals "close_clauses" = some (some (.ref f24))) (l24 : K.lookup f24 = some ⟨oc24, od24, .func (PySem.W.fnOf "close_clauses" "close_clauses" (defArgs (topS 24)) (defBody (topS 24)) (defScope (topS 24)) .none kV24 dc24 pm24 an24 cd24 ct24), sl24⟩) (c24 : PySem.W.codeIn K cd24 "close_clauses" = true) (k24 : PySem.W.keepIn K (.ref f24) = true)
    {oc30 kV30 dc30 pm30 cd30 ct30 : Value} {od30 an30 : Option Addr} {sl30 : Array (Option Value)} {f30 : Addr}
    (a30 : PySem.W.nsIn K mainGlobals "_law_source" = some (some (.ref f30))) (l30 : K.lookup f30 = some ⟨oc30, od30, .func (PySem.W.fnOf "_law_source" "_law_source" (defArgs (topS 30)) (defBody (topS 30)) (defScope (topS 30)) .none kV30 dc30 pm30 an30 cd30 ct30), sl30⟩) (c30 : PySem.W.codeIn K cd30 "_law_source" = true) (k30 : PySem.W.keepIn K (.ref f30) = true)
    {oc31 kV31 dc31 pm31 cd31 ct31 : Value} {od31 an31 : Option Addr} {sl31 : Array (Option Value)} {f31 : Addr}
    (a31 : PySem.W.nsIn K mainGlobals "_law_from" = some (some (.ref f31))) (l31 : K.lookup f31 = some ⟨oc31, od31, .func (PySem.W.fnOf "_law_from" "_law_from" (defArgs (topS 31)) (defBody (topS 31)) (defScope (topS 31)) .none kV31 dc31 pm31 an31 cd31 ct31), sl31⟩) (c31 : PySem.W.codeIn K cd31 "_law_from" = true) (k31 : PySem.W.keepIn K (.ref f31) = true)
    {oc32 kV32 dc32 pm32 cd32 ct32 : Value} {od32 an32 : Option Addr} {sl32 : Array (Option Value)} {f32 : Addr}
    (a32 : PySem.W.nsIn K mainGlobals "_law_draw" = some (some (.ref f32))) (l32 : K.lookup f32 = some ⟨oc32, od32, .func (PySem.W.fnOf "_law_draw" "_law_draw" (defArgs (topS 32)) (defBody (topS 32)) (defScope (topS 32)) .none kV32 dc32 pm32 an32 cd32 ct32), sl32⟩) (c32 : PySem.W.codeIn K cd32 "_law_draw" = true) (k32 : PySem.W.keepIn K (.ref f32) = true)
    {oc33 kV33 dc33 pm33 cd33 ct33 : Value} {od33 an33 : Option Addr} {sl33 : Array (Option Value)} {f33 : Addr}
    (a33 : PySem.W.nsIn K mainGlobals "_law_some" = some (some (.ref f33))) (l33 : K.lookup f33 = some ⟨oc33, od33, .func (PySem.W.fnOf "_law_some" "_law_some" (defArgs (topS 33)) (defBody (topS 33)) (defScope (topS 33)) .none kV33 dc33 pm33 an33 cd33 ct33), sl33⟩) (c33 : PySem.W.codeIn K cd33 "_law_some" = true) (k33 : PySem.W.keepIn K (.ref f33) = true)
    {oc34 kV34 dc34 pm34 cd34 ct34 : Value} {od34 an34 : Option Addr} {sl34 : Array (Option Value)} {f34 : Addr}
    (a34 : PySem.W.nsIn K mainGlobals "_law_exact" = some (some (.ref f34))) (l34 : K.lookup f34 = some ⟨oc34, od34, .func (PySem.W.fnOf "_law_exact" "_law_exact" (defArgs (topS 34)) (defBody (topS 34)) (defScope (topS 34)) .none kV34 dc34 pm34 an34 cd34 ct34), sl34⟩) (c34 : PySem.W.codeIn K cd34 "_law_exact" = true) (k34 : PySem.W.keepIn K (.ref f34) = true)
    {oc35 kV35 dc35 pm35 cd35 ct35 : Value} {od35 an35 : Option Addr} {sl35 : Array (Option Value)} {f35 : Addr}
    (a35 : PySem.W.nsIn K mainGlobals "_law_rows" = some (some (.ref f35))) (l35 : K.lookup f35 = some ⟨oc35, od35, .func (PySem.W.fnOf "_law_rows" "_law_rows" (defArgs (topS 35)) (defBody (topS 35)) (defScope (topS 35)) .none kV35 dc35 pm35 an35 cd35 ct35), sl35⟩) (c35 : PySem.W.codeIn K cd35 "_law_rows" = true) (k35 : PySem.W.keepIn K (.ref f35) = true)
    {oc36 kV36 dc36 pm36 cd36 ct36 : Value} {od36 an36 : Option Addr} {sl36 : Array (Option Value)} {f36 : Addr}
    (a36 : PySem.W.nsIn K mainGlobals "_law_kept" = some (some (.ref f36))) (l36 : K.lookup f36 = some ⟨oc36, od36, .func (PySem.W.fnOf "_law_kept" "_law_kept" (defArgs (topS 36)) (defBody (topS 36)) (defScope (topS 36)) .none kV36 dc36 pm36 an36 cd36 ct36), sl36⟩) (c36 : PySem.W.codeIn K cd36 "_law_kept" = true) (k36 : PySem.W.keepIn K (.ref f36) = true)
    {oc37 kV37 dc37 pm37 cd37 ct37 : Value} {od37 an37 : Option Addr} {sl37 : Array (Option Value)} {f37 : Addr}
    (a37 : PySem.W.nsIn K mainGlobals "_law_clause" = some (some (.ref f37))) (l37 : K.lookup f37 = some ⟨oc37, od37, .func (PySem.W.fnOf "_law_clause" "_law_clause" (defArgs (topS 37)) (defBody (topS 37)) (defScope (topS 37)) .none kV37 dc37 pm37 an37 cd37 ct37), sl37⟩) (c37 : PySem.W.codeIn K cd37 "_law_clause" = true) (k37 : PySem.W.keepIn K (.ref f37) = true)
    {oc38 kV38 dc38 pm38 cd38 ct38 : Value} {od38 an38 : Option Addr} {sl38 : Array (Option Value)} {f38 : Addr}
    (a38 : PySem.W.nsIn K mainGlobals "_law_theory" = some (some (.ref f38))) (l38 : K.lookup f38 = some ⟨oc38, od38, .func (PySem.W.fnOf "_law_theory" "_law_theory" (defArgs (topS 38)) (defBody (topS 38)) (defScope (topS 38)) .none kV38 dc38 pm38 an38 cd38 ct38), sl38⟩) (c38 : PySem.W.codeIn K cd38 "_law_theory" = true) (k38 : PySem.W.keepIn K (.ref f38) = true)
    {oc39 kV39 dc39 pm39 cd39 ct39 : Value} {od39 an39 : Option Addr} {sl39 : Array (Option Value)} {f39 : Addr}
    (a39 : PySem.W.nsIn K mainGlobals "_law_theories" = some (some (.ref f39))) (l39 : K.lookup f39 = some ⟨oc39, od39, .func (PySem.W.fnOf "_law_theories" "_law_theories" (defArgs (topS 39)) (defBody (topS 39)) (defScope (topS 39)) .none kV39 dc39 pm39 an39 cd39 ct39), sl39⟩) (c39 : PySem.W.codeIn K cd39 "_law_theories" = true) (k39 : PySem.W.keepIn K (.ref f39) = true)
    {oc40 kV40 dc40 pm40 cd40 ct40 : Value} {od40 an40 : Option Addr} {sl40 : Array (Option Value)} {f40 : Addr}
    (a40 : PySem.W.nsIn K mainGlobals "_law_clauses" = some (some (.ref f40))) (l40 : K.lookup f40 = some ⟨oc40, od40, .func (PySem.W.fnOf "_law_clauses" "_law_clauses" (defArgs (topS 40)) (defBody (topS 40)) (defScope (topS 40)) .none kV40 dc40 pm40 an40 cd40 ct40), sl40⟩) (c40 : PySem.W.codeIn K cd40 "_law_clauses" = true) (k40 : PySem.W.keepIn K (.ref f40) = true)
    {oc41 kV41 dc41 pm41 cd41 ct41 : Value} {od41 an41 : Option Addr} {sl41 : Array (Option Value)} {f41 : Addr}
    (a41 : PySem.W.nsIn K mainGlobals "_law_normal" = some (some (.ref f41))) (l41 : K.lookup f41 = some ⟨oc41, od41, .func (PySem.W.fnOf "_law_normal" "_law_normal" (defArgs (topS 41)) (defBody (topS 41)) (defScope (topS 41)) .none kV41 dc41 pm41 an41 cd41 ct41), sl41⟩) (c41 : PySem.W.codeIn K cd41 "_law_normal" = true) (k41 : PySem.W.keepIn K (.ref f41) = true)
    {oc42 kV42 dc42 pm42 cd42 ct42 : Value} {od42 an42 : Option Addr} {sl42 : Array (Option Value)} {f42 : Addr}
    (a42 : PySem.W.nsIn K mainGlobals "_law_names" = some (some (.ref f42))) (l42 : K.lookup f42 = some ⟨oc42, od42, .func (PySem.W.fnOf "_law_names" "_law_names" (defArgs (topS 42)) (defBody (topS 42)) (defScope (topS 42)) .none kV42 dc42 pm42 an42 cd42 ct42), sl42⟩) (c42 : PySem.W.codeIn K cd42 "_law_names" = true) (k42 : PySem.W.keepIn K (.ref f42) = true)
    {oc43 kV43 dc43 pm43 cd43 ct43 : Value} {od43 an43 : Option Addr} {sl43 : Array (Option Value)} {f43 : Addr}
    (a43 : PySem.W.nsIn K mainGlobals "_law_due" = some (some (.ref f43))) (l43 : K.lookup f43 = some ⟨oc43, od43, .func (PySem.W.fnOf "_law_due" "_law_due" (defArgs (topS 43)) (defBody (topS 43)) (defScope (topS 43)) .none kV43 dc43 pm43 an43 cd43 ct43), sl43⟩) (c43 : PySem.W.codeIn K cd43 "_law_due" = true) (k43 : PySem.W.keepIn K (.ref f43) = true)
    {oc44 kV44 dc44 pm44 cd44 ct44 : Value} {od44 an44 : Option Addr} {sl44 : Array (Option Value)} {f44 : Addr}
    (a44 : PySem.W.nsIn K mainGlobals "_law_ask" = some (some (.ref f44))) (l44 : K.lookup f44 = some ⟨oc44, od44, .func (PySem.W.fnOf "_law_ask" "_law_ask" (defArgs (topS 44)) (defBody (topS 44)) (defScope (topS 44)) .none kV44 dc44 pm44 an44 cd44 ct44), sl44⟩) (c44 : PySem.W.codeIn K cd44 "_law_ask" = true) (k44 : PySem.W.keepIn K (.ref f44) = true)
    {oc45 kV45 dc45 pm45 cd45 ct45 : Value} {od45 an45 : Option Addr} {sl45 : Array (Option Value)} {f45 : Addr}
    (a45 : PySem.W.nsIn K mainGlobals "_law_right" = some (some (.ref f45))) (l45 : K.lookup f45 = some ⟨oc45, od45, .func (PySem.W.fnOf "_law_right" "_law_right" (defArgs (topS 45)) (defBody (topS 45)) (defScope (topS 45)) .none kV45 dc45 pm45 an45 cd45 ct45), sl45⟩) (c45 : PySem.W.codeIn K cd45 "_law_right" = true) (k45 : PySem.W.keepIn K (.ref f45) = true)
    {oc46 kV46 dc46 pm46 cd46 ct46 : Value} {od46 an46 : Option Addr} {sl46 : Array (Option Value)} {f46 : Addr}
    (a46 : PySem.W.nsIn K mainGlobals "law" = some (some (.ref f46))) (l46 : K.lookup f46 = some ⟨oc46, od46, .func (PySem.W.fnOf "law" "law" (defArgs (topS 46)) (defBody (topS 46)) (defScope (topS 46)) .none kV46 dc46 pm46 an46 cd46 ct46), sl46⟩) (c46 : PySem.W.codeIn K cd46 "law" = true) (k46 : PySem.W.keepIn K (.ref f46) = true)
    (z_len : PySem.W.nsIn K mainGlobals "len" = some none)
    (z_int : PySem.W.nsIn K mainGlobals "int" = some none)
    (z_str : PySem.W.nsIn K mainGlobals "str" = some none)
    (z_bool : PySem.W.nsIn K mainGlobals "bool" = some none)
    (z_list : PySem.W.nsIn K mainGlobals "list" = some none)
    (z_tuple : PySem.W.nsIn K mainGlobals "tuple" = some none)
    (z_dict : PySem.W.nsIn K mainGlobals "dict" = some none)
    (z_range : PySem.W.nsIn K mainGlobals "range" = some none)
    (z_sorted : PySem.W.nsIn K mainGlobals "sorted" = some none)
    (z_isinstance : PySem.W.nsIn K mainGlobals "isinstance" = some none)
    (z_any : PySem.W.nsIn K mainGlobals "any" = some none)
    (z_min : PySem.W.nsIn K mainGlobals "min" = some none)
    (z_ValueError : PySem.W.nsIn K mainGlobals "ValueError" = some none)
    : ∃ fd : FuncData, (∀ (s : Shared) (v : Value), BindsTo s fd ⟨[v], []⟩ [("_law_script", v)]) ∧ ∀ base : Heap, K.In base → base.Ns mainGlobals mg → FnOk l.prog w K mg base CX0 10 fa fd ["_law_script"] (sp_law K) := by
  have e := hfa.symm.trans (PySem.W.mg_of X G a46)
  cases e
  let A : Nat → Addr := fun i => match i with
    | 5 => f5
    | 6 => f6
    | 8 => f8
    | 9 => f9
    | 10 => f10
    | 11 => f11
    | 12 => f12
    | 14 => f14
    | 16 => f16
    | 17 => f17
    | 19 => f19
    | 20 => f20
    | 21 => f21
    | 22 => f22
    | 23 => f23
    | 24 => f24
    | 30 => f30
    | 31 => f31
    | 32 => f32
    | 33 => f33
    | 34 => f34
    | 35 => f35
    | 36 => f36
    | 37 => f37
    | 38 => f38
    | 39 => f39
    | 40 => f40
    | 41 => f41
    | 42 => f42
    | 43 => f43
    | 44 => f44
    | 45 => f45
    | 46 => fa
    | 2 => f2
    | 3 => f3
    | 26 => f26
    | 28 => f28
    | 1563 => f1563
    | 1566 => f1566
    | 1567 => f1567
    | 1568 => f1568
    | 1569 => f1569
    | _ => 0
  let D : Nat → FuncData := fun i => match i with
    | 1563 => PySem.W.fnOf "holds" "Bits.holds" (defArgs (topM 28 3)) (defBody (topM 28 3)) (defScope (topM 28 3)) .none kV1563 dc1563 pm1563 an1563 cd1563 ct1563
    | 1566 => PySem.W.fnOf "eliminate" "Bits.eliminate" (defArgs (topM 28 6)) (defBody (topM 28 6)) (defScope (topM 28 6)) .none kV1566 dc1566 pm1566 an1566 cd1566 ct1566
    | 1567 => PySem.W.fnOf "lift" "Bits.lift" (defArgs (topM 28 7)) (defBody (topM 28 7)) (defScope (topM 28 7)) .none kV1567 dc1567 pm1567 an1567 cd1567 ct1567
    | 1568 => PySem.W.fnOf "ground" "Bits.ground" (defArgs (topM 28 8)) (defBody (topM 28 8)) (defScope (topM 28 8)) .none kV1568 dc1568 pm1568 an1568 cd1568 ct1568
    | 1569 => PySem.W.fnOf "normal" "Bits.normal" (defArgs (topM 28 9)) (defBody (topM 28 9)) (defScope (topM 28 9)) .none kV1569 dc1569 pm1569 an1569 cd1569 ct1569
    | 5 => PySem.W.fnOf "merge_names" "merge_names" (defArgs (topS 5)) (defBody (topS 5)) (defScope (topS 5)) .none kV5 dc5 pm5 an5 cd5 ct5
    | 6 => PySem.W.fnOf "drop_name" "drop_name" (defArgs (topS 6)) (defBody (topS 6)) (defScope (topS 6)) .none kV6 dc6 pm6 an6 cd6 ct6
    | 8 => PySem.W.fnOf "satisfies" "satisfies" (defArgs (topS 8)) (defBody (topS 8)) (defScope (topS 8)) .none kV8 dc8 pm8 an8 cd8 ct8
    | 9 => PySem.W.fnOf "shadow" "shadow" (defArgs (topS 9)) (defBody (topS 9)) (defScope (topS 9)) .none kV9 dc9 pm9 an9 cd9 ct9
    | 10 => PySem.W.fnOf "eliminated" "eliminated" (defArgs (topS 10)) (defBody (topS 10)) (defScope (topS 10)) .none kV10 dc10 pm10 an10 cd10 ct10
    | 11 => PySem.W.fnOf "lifted" "lifted" (defArgs (topS 11)) (defBody (topS 11)) (defScope (topS 11)) .none kV11 dc11 pm11 an11 cd11 ct11
    | 12 => PySem.W.fnOf "solve" "solve" (defArgs (topS 12)) (defBody (topS 12)) (defScope (topS 12)) .none kV12 dc12 pm12 an12 cd12 ct12
    | 14 => PySem.W.fnOf "join" "join" (defArgs (topS 14)) (defBody (topS 14)) (defScope (topS 14)) .none kV14 dc14 pm14 an14 cd14 ct14
    | 16 => PySem.W.fnOf "middle" "middle" (defArgs (topS 16)) (defBody (topS 16)) (defScope (topS 16)) .none kV16 dc16 pm16 an16 cd16 ct16
    | 17 => PySem.W.fnOf "middles" "middles" (defArgs (topS 17)) (defBody (topS 17)) (defScope (topS 17)) .none kV17 dc17 pm17 an17 cd17 ct17
    | 19 => PySem.W.fnOf "contains" "contains" (defArgs (topS 19)) (defBody (topS 19)) (defScope (topS 19)) .none kV19 dc19 pm19 an19 cd19 ct19
    | 20 => PySem.W.fnOf "least_clauses" "least_clauses" (defArgs (topS 20)) (defBody (topS 20)) (defScope (topS 20)) .none kV20 dc20 pm20 an20 cd20 ct20
    | 21 => PySem.W.fnOf "resolvent" "resolvent" (defArgs (topS 21)) (defBody (topS 21)) (defScope (topS 21)) .none kV21 dc21 pm21 an21 cd21 ct21
    | 22 => PySem.W.fnOf "resolvents" "resolvents" (defArgs (topS 22)) (defBody (topS 22)) (defScope (topS 22)) .none kV22 dc22 pm22 an22 cd22 ct22
    | 23 => PySem.W.fnOf "eliminate_name" "eliminate_name" (defArgs (topS 23)) (defBody (topS 23)) (defScope (topS 23)) .none kV23 dc23 pm23 an23 cd23 ct23
    | 24 => PySem.W.fnOf "close_clauses" "close_clauses" (defArgs (topS 24)) (defBody (topS 24)) (defScope (topS 24)) .none kV24 dc24 pm24 an24 cd24 ct24
    | 30 => PySem.W.fnOf "_law_source" "_law_source" (defArgs (topS 30)) (defBody (topS 30)) (defScope (topS 30)) .none kV30 dc30 pm30 an30 cd30 ct30
    | 31 => PySem.W.fnOf "_law_from" "_law_from" (defArgs (topS 31)) (defBody (topS 31)) (defScope (topS 31)) .none kV31 dc31 pm31 an31 cd31 ct31
    | 32 => PySem.W.fnOf "_law_draw" "_law_draw" (defArgs (topS 32)) (defBody (topS 32)) (defScope (topS 32)) .none kV32 dc32 pm32 an32 cd32 ct32
    | 33 => PySem.W.fnOf "_law_some" "_law_some" (defArgs (topS 33)) (defBody (topS 33)) (defScope (topS 33)) .none kV33 dc33 pm33 an33 cd33 ct33
    | 34 => PySem.W.fnOf "_law_exact" "_law_exact" (defArgs (topS 34)) (defBody (topS 34)) (defScope (topS 34)) .none kV34 dc34 pm34 an34 cd34 ct34
    | 35 => PySem.W.fnOf "_law_rows" "_law_rows" (defArgs (topS 35)) (defBody (topS 35)) (defScope (topS 35)) .none kV35 dc35 pm35 an35 cd35 ct35
    | 36 => PySem.W.fnOf "_law_kept" "_law_kept" (defArgs (topS 36)) (defBody (topS 36)) (defScope (topS 36)) .none kV36 dc36 pm36 an36 cd36 ct36
    | 37 => PySem.W.fnOf "_law_clause" "_law_clause" (defArgs (topS 37)) (defBody (topS 37)) (defScope (topS 37)) .none kV37 dc37 pm37 an37 cd37 ct37
    | 38 => PySem.W.fnOf "_law_theory" "_law_theory" (defArgs (topS 38)) (defBody (topS 38)) (defScope (topS 38)) .none kV38 dc38 pm38 an38 cd38 ct38
    | 39 => PySem.W.fnOf "_law_theories" "_law_theories" (defArgs (topS 39)) (defBody (topS 39)) (defScope (topS 39)) .none kV39 dc39 pm39 an39 cd39 ct39
    | 40 => PySem.W.fnOf "_law_clauses" "_law_clauses" (defArgs (topS 40)) (defBody (topS 40)) (defScope (topS 40)) .none kV40 dc40 pm40 an40 cd40 ct40
    | 41 => PySem.W.fnOf "_law_normal" "_law_normal" (defArgs (topS 41)) (defBody (topS 41)) (defScope (topS 41)) .none kV41 dc41 pm41 an41 cd41 ct41
    | 42 => PySem.W.fnOf "_law_names" "_law_names" (defArgs (topS 42)) (defBody (topS 42)) (defScope (topS 42)) .none kV42 dc42 pm42 an42 cd42 ct42
    | 43 => PySem.W.fnOf "_law_due" "_law_due" (defArgs (topS 43)) (defBody (topS 43)) (defScope (topS 43)) .none kV43 dc43 pm43 an43 cd43 ct43
    | 44 => PySem.W.fnOf "_law_ask" "_law_ask" (defArgs (topS 44)) (defBody (topS 44)) (defScope (topS 44)) .none kV44 dc44 pm44 an44 cd44 ct44
    | 45 => PySem.W.fnOf "_law_right" "_law_right" (defArgs (topS 45)) (defBody (topS 45)) (defScope (topS 45)) .none kV45 dc45 pm45 an45 cd45 ct45
    | 46 => PySem.W.fnOf "law" "law" (defArgs (topS 46)) (defBody (topS 46)) (defScope (topS 46)) .none kV46 dc46 pm46 an46 cd46 ct46
    | _ => PySem.W.fnOf "law" "law" (defArgs (topS 46)) (defBody (topS 46)) (defScope (topS 46)) .none kV46 dc46 pm46 an46 cd46 ct46
  have T : Txt K mg A D := {
    g_ShadowError := PySem.W.mg_of X G a2
    g_NoSolution := PySem.W.mg_of X G a3
    E0_NoSolution := ⟨PySem.W.mg_of X G a3, ex_3, kC_3, tC_3, ⟨ga_3, gg_3, eC_3, hC_3, isa_3, isn_3, ist_3, ism_3⟩⟩
    x_NoSolution_ShadowError := PySem.W.exm_ref eC_2 hC_2 tC_2 sb_3_2
    k_NoSolution_ShadowError := ki_3_2
    x_NoSolution_NoSolution := PySem.W.exm_ref eC_3 hC_3 tC_3 sb_3_3
    k_NoSolution_NoSolution := ki_3_3
    kv_NoSolution := kv_3
    g_Kind := PySem.W.mg_of X G a26
    cl_Kind := ⟨pg26, hd26, po26, os26⟩
    cr_Kind := ⟨rd26, og26⟩
    sf_Kind := sf26
    mp_Kind := ⟨mk26, oi26, kp26⟩
    g_Bits := PySem.W.mg_of X G a28
    cl_Bits := ⟨pg28, hd28, po28, os28⟩
    cr_Bits := ⟨rd28, og28⟩
    sf_Bits := sf28
    mp_Bits := ⟨mk28, oi28, kp28⟩
    F_Bits_holds := fun_mk (st := (topM 28 3)) l1563 c1563 k1563
    b_Bits_holds := (fun_mk (st := (topM 28 3)) l1563 c1563 k1563).binds (ps := ["self", "constraint", "assignment"]) fun _ _ _ _ _ _ us hl => match us, hl with | [_, _, _], _ => rfl
    M_Bits_holds := ⟨at1563, fn1563, k1563⟩
    F_Bits_eliminate := fun_mk (st := (topM 28 6)) l1566 c1566 k1566
    b_Bits_eliminate := (fun_mk (st := (topM 28 6)) l1566 c1566 k1566).binds (ps := ["self", "theory", "name"]) fun _ _ _ _ _ _ us hl => match us, hl with | [_, _, _], _ => rfl
    M_Bits_eliminate := ⟨at1566, fn1566, k1566⟩
    F_Bits_lift := fun_mk (st := (topM 28 7)) l1567 c1567 k1567
    b_Bits_lift := (fun_mk (st := (topM 28 7)) l1567 c1567 k1567).binds (ps := ["self", "theory", "name", "assignment"]) fun _ _ _ _ _ _ us hl => match us, hl with | [_, _, _, _], _ => rfl
    M_Bits_lift := ⟨at1567, fn1567, k1567⟩
    F_Bits_ground := fun_mk (st := (topM 28 8)) l1568 c1568 k1568
    b_Bits_ground := (fun_mk (st := (topM 28 8)) l1568 c1568 k1568).binds (ps := ["self", "theory"]) fun _ _ _ _ _ _ us hl => match us, hl with | [_, _], _ => rfl
    M_Bits_ground := ⟨at1568, fn1568, k1568⟩
    F_Bits_normal := fun_mk (st := (topM 28 9)) l1569 c1569 k1569
    b_Bits_normal := (fun_mk (st := (topM 28 9)) l1569 c1569 k1569).binds (ps := ["self", "theory"]) fun _ _ _ _ _ _ us hl => match us, hl with | [_, _], _ => rfl
    M_Bits_normal := ⟨at1569, fn1569, k1569⟩
    F_merge_names := fun_mk (st := topS 5) l5 c5 k5
    g_merge_names := PySem.W.mg_of X G a5
    F_drop_name := fun_mk (st := topS 6) l6 c6 k6
    g_drop_name := PySem.W.mg_of X G a6
    b_drop_name := (fun_mk (st := topS 6) l6 c6 k6).binds (ps := ["names", "gone"]) fun _ _ _ _ _ _ us hl => match us, hl with | [_, _], _ => rfl
    F_satisfies := fun_mk (st := topS 8) l8 c8 k8
    g_satisfies := PySem.W.mg_of X G a8
    b_satisfies := (fun_mk (st := topS 8) l8 c8 k8).binds (ps := ["kind", "theory", "assignment"]) fun _ _ _ _ _ _ us hl => match us, hl with | [_, _, _], _ => rfl
    F_shadow := fun_mk (st := topS 9) l9 c9 k9
    g_shadow := PySem.W.mg_of X G a9
    kn_shadow := ⟨fun s us ws X l1 l2 => .of_eq (match us, ws, l1, l2 with | [_, _], [_], _, _ => rfl), fun r1 r2 => r1.append r2⟩
    F_eliminated := fun_mk (st := topS 10) l10 c10 k10
    g_eliminated := PySem.W.mg_of X G a10
    b_eliminated := (fun_mk (st := topS 10) l10 c10 k10).binds (ps := ["kind", "theory", "names"]) fun _ _ _ _ _ _ us hl => match us, hl with | [_, _, _], _ => rfl
    F_lifted := fun_mk (st := topS 11) l11 c11 k11
    g_lifted := PySem.W.mg_of X G a11
    b_lifted := (fun_mk (st := topS 11) l11 c11 k11).binds (ps := ["kind", "theories", "names", "assignment"]) fun _ _ _ _ _ _ us hl => match us, hl with | [_, _, _, _], _ => rfl
    F_solve := fun_mk (st := topS 12) l12 c12 k12
    g_solve := PySem.W.mg_of X G a12
    b_solve := (fun_mk (st := topS 12) l12 c12 k12).binds (ps := ["kind", "theory"]) fun _ _ _ _ _ _ us hl => match us, hl with | [_, _], _ => rfl
    F_join := fun_mk (st := topS 14) l14 c14 k14
    g_join := PySem.W.mg_of X G a14
    b_join := (fun_mk (st := topS 14) l14 c14 k14).binds (ps := ["theories"]) fun _ _ _ _ _ _ us hl => match us, hl with | [_], _ => rfl
    F_middle := fun_mk (st := topS 16) l16 c16 k16
    g_middle := PySem.W.mg_of X G a16
    b_middle := (fun_mk (st := topS 16) l16 c16 k16).binds (ps := ["kind", "first", "second"]) fun _ _ _ _ _ _ us hl => match us, hl with | [_, _, _], _ => rfl
    F_middles := fun_mk (st := topS 17) l17 c17 k17
    g_middles := PySem.W.mg_of X G a17
    F_contains := fun_mk (st := topS 19) l19 c19 k19
    g_contains := PySem.W.mg_of X G a19
    b_contains := (fun_mk (st := topS 19) l19 c19 k19).binds (ps := ["first", "second"]) fun _ _ _ _ _ _ us hl => match us, hl with | [_, _], _ => rfl
    F_least_clauses := fun_mk (st := topS 20) l20 c20 k20
    g_least_clauses := PySem.W.mg_of X G a20
    b_least_clauses := (fun_mk (st := topS 20) l20 c20 k20).binds (ps := ["clauses"]) fun _ _ _ _ _ _ us hl => match us, hl with | [_], _ => rfl
    F_resolvent := fun_mk (st := topS 21) l21 c21 k21
    g_resolvent := PySem.W.mg_of X G a21
    b_resolvent := (fun_mk (st := topS 21) l21 c21 k21).binds (ps := ["first", "second", "name"]) fun _ _ _ _ _ _ us hl => match us, hl with | [_, _, _], _ => rfl
    F_resolvents := fun_mk (st := topS 22) l22 c22 k22
    g_resolvents := PySem.W.mg_of X G a22
    b_resolvents := (fun_mk (st := topS 22) l22 c22 k22).binds (ps := ["clauses", "name"]) fun _ _ _ _ _ _ us hl => match us, hl with | [_, _], _ => rfl
    F_eliminate_name := fun_mk (st := topS 23) l23 c23 k23
    g_eliminate_name := PySem.W.mg_of X G a23
    b_eliminate_name := (fun_mk (st := topS 23) l23 c23 k23).binds (ps := ["clauses", "name"]) fun _ _ _ _ _ _ us hl => match us, hl with | [_, _], _ => rfl
    F_close_clauses := fun_mk (st := topS 24) l24 c24 k24
    g_close_clauses := PySem.W.mg_of X G a24
    b_close_clauses := (fun_mk (st := topS 24) l24 c24 k24).binds (ps := ["clauses", "names"]) fun _ _ _ _ _ _ us hl => match us, hl with | [_, _], _ => rfl
    F__law_source := fun_mk (st := topS 30) l30 c30 k30
    g__law_source := PySem.W.mg_of X G a30
    b__law_source := (fun_mk (st := topS 30) l30 c30 k30).binds (ps := ["_law_script", "_law_k"]) fun _ _ _ _ _ _ us hl => match us, hl with | [_, _], _ => rfl
    F__law_from := fun_mk (st := topS 31) l31 c31 k31
    g__law_from := PySem.W.mg_of X G a31
    b__law_from := (fun_mk (st := topS 31) l31 c31 k31).binds (ps := ["_law_script", "_law_k"]) fun _ _ _ _ _ _ us hl => match us, hl with | [_, _], _ => rfl
    F__law_draw := fun_mk (st := topS 32) l32 c32 k32
    g__law_draw := PySem.W.mg_of X G a32
    b__law_draw := (fun_mk (st := topS 32) l32 c32 k32).binds (ps := ["_law_source_here", "_law_limit"]) fun _ _ _ _ _ _ us hl => match us, hl with | [_, _], _ => rfl
    F__law_some := fun_mk (st := topS 33) l33 c33 k33
    g__law_some := PySem.W.mg_of X G a33
    b__law_some := (fun_mk (st := topS 33) l33 c33 k33).binds (ps := ["_law_source_here", "_law_names_here", "_law_most"]) fun _ _ _ _ _ _ us hl => match us, hl with | [_, _, _], _ => rfl
    F__law_exact := fun_mk (st := topS 34) l34 c34 k34
    g__law_exact := PySem.W.mg_of X G a34
    b__law_exact := (fun_mk (st := topS 34) l34 c34 k34).binds (ps := ["_law_actual", "_law_due_here"]) fun _ _ _ _ _ _ us hl => match us, hl with | [_, _], _ => rfl
    F__law_rows := fun_mk (st := topS 35) l35 c35 k35
    g__law_rows := PySem.W.mg_of X G a35
    b__law_rows := (fun_mk (st := topS 35) l35 c35 k35).binds (ps := ["_law_count"]) fun _ _ _ _ _ _ us hl => match us, hl with | [_], _ => rfl
    F__law_kept := fun_mk (st := topS 36) l36 c36 k36
    g__law_kept := PySem.W.mg_of X G a36
    b__law_kept := (fun_mk (st := topS 36) l36 c36 k36).binds (ps := ["_law_names_here", "_law_row", "_law_clauses_here"]) fun _ _ _ _ _ _ us hl => match us, hl with | [_, _, _], _ => rfl
    F__law_clause := fun_mk (st := topS 37) l37 c37 k37
    g__law_clause := PySem.W.mg_of X G a37
    b__law_clause := (fun_mk (st := topS 37) l37 c37 k37).binds (ps := ["_law_source_here", "_law_names_here", "_law_held"]) fun _ _ _ _ _ _ us hl => match us, hl with | [_, _, _], _ => rfl
    F__law_theory := fun_mk (st := topS 38) l38 c38 k38
    g__law_theory := PySem.W.mg_of X G a38
    b__law_theory := (fun_mk (st := topS 38) l38 c38 k38).binds (ps := ["_law_source_here", "_law_k", "_law_common"]) fun _ _ _ _ _ _ us hl => match us, hl with | [_, _, _], _ => rfl
    F__law_theories := fun_mk (st := topS 39) l39 c39 k39
    g__law_theories := PySem.W.mg_of X G a39
    b__law_theories := (fun_mk (st := topS 39) l39 c39 k39).binds (ps := ["_law_script"]) fun _ _ _ _ _ _ us hl => match us, hl with | [_], _ => rfl
    F__law_clauses := fun_mk (st := topS 40) l40 c40 k40
    g__law_clauses := PySem.W.mg_of X G a40
    b__law_clauses := (fun_mk (st := topS 40) l40 c40 k40).binds (ps := ["_law_names_here"]) fun _ _ _ _ _ _ us hl => match us, hl with | [_], _ => rfl
    F__law_normal := fun_mk (st := topS 41) l41 c41 k41
    g__law_normal := PySem.W.mg_of X G a41
    b__law_normal := (fun_mk (st := topS 41) l41 c41 k41).binds (ps := ["_law_names_here", "_law_rows_here"]) fun _ _ _ _ _ _ us hl => match us, hl with | [_, _], _ => rfl
    F__law_names := fun_mk (st := topS 42) l42 c42 k42
    g__law_names := PySem.W.mg_of X G a42
    b__law_names := (fun_mk (st := topS 42) l42 c42 k42).binds (ps := ["_law_theories_here"]) fun _ _ _ _ _ _ us hl => match us, hl with | [_], _ => rfl
    F__law_due := fun_mk (st := topS 43) l43 c43 k43
    g__law_due := PySem.W.mg_of X G a43
    b__law_due := (fun_mk (st := topS 43) l43 c43 k43).binds (ps := ["_law_theories_here"]) fun _ _ _ _ _ _ us hl => match us, hl with | [_], _ => rfl
    F__law_ask := fun_mk (st := topS 44) l44 c44 k44
    g__law_ask := PySem.W.mg_of X G a44
    b__law_ask := (fun_mk (st := topS 44) l44 c44 k44).binds (ps := ["_law_kind", "_law_theories_here"]) fun _ _ _ _ _ _ us hl => match us, hl with | [_, _], _ => rfl
    F__law_right := fun_mk (st := topS 45) l45 c45 k45
    g__law_right := PySem.W.mg_of X G a45
    b__law_right := (fun_mk (st := topS 45) l45 c45 k45).binds (ps := ["_law_actual", "_law_due_here"]) fun _ _ _ _ _ _ us hl => match us, hl with | [_, _], _ => rfl
    F_law := fun_mk (st := topS 46) l46 c46 k46
    g_law := PySem.W.mg_of X G a46
    b_law := (fun_mk (st := topS 46) l46 c46 k46).binds (ps := ["_law_script"]) fun _ _ _ _ _ _ us hl => match us, hl with | [_], _ => rfl
    z_len := PySem.W.mg_none_of X G z_len
    z_int := PySem.W.mg_none_of X G z_int
    z_str := PySem.W.mg_none_of X G z_str
    z_bool := PySem.W.mg_none_of X G z_bool
    z_list := PySem.W.mg_none_of X G z_list
    z_tuple := PySem.W.mg_none_of X G z_tuple
    z_dict := PySem.W.mg_none_of X G z_dict
    z_range := PySem.W.mg_none_of X G z_range
    z_sorted := PySem.W.mg_none_of X G z_sorted
    z_isinstance := PySem.W.mg_none_of X G z_isinstance
    z_any := PySem.W.mg_none_of X G z_any
    z_min := PySem.W.mg_none_of X G z_min
    z_ValueError := PySem.W.mg_none_of X G z_ValueError
  }
  exact ⟨D 46, fun s v => .of_eq rfl, fun base _ _ => ok_law T⟩
theorem walk {l : PySem.W.OpenLaw} {q : Program} {loose : List Str} {XP : (Str → Option Value) → Heap → Prop} {YP : World → Heap → Prop} {d : DefRec} {K : Params → PySem.W.Frag} (hn : l.most = some 63) (hdf : d.params.defaults = [])
    (hY : ∀ (w : World) (h : Heap), YP w h → (K w.params).In h)
    (F : ∀ (w : World) (mg : Str → Option Value) (fa : Addr) (h : Heap), (K w.params).In h → h.Ns mainGlobals mg → mg d.name = some (.ref fa) →
      ∃ fd : FuncData, (∀ (s : Shared) (u : Value), BindsTo s fd ⟨[u], []⟩ [("_law_script", u)]) ∧ ∀ base : Heap, (K w.params).In base → base.Ns mainGlobals mg → FnOk l.prog w (K w.params) mg base CX0 10 fa fd ["_law_script"] (sp_law (K w.params))) :
    PySem.W.WalkO q loose XP YP l.row.toRowW d [] (fun f vs => PySem.call f vs) :=
  L2.walk_of (n := 63) (k := 10) (x := "_law_script") (CX := fun _ => CX0) (sp := fun w => sp_law (K w.params)) hn (by decide) hdf ⟨rfl, by decide, by decide⟩ hY F (fun _ H a ns hl hO hS => ⟨a, ns, rfl, hS, hl, fun _ => rfl⟩) fun _ _ _ _ _ z => z
end Sl
open PySem PySem.W PyProof.Rows
set_option maxRecDepth 100000 in
set_option maxHeartbeats 0 in
theorem PySem.Challenge.cw_shadowlinks_k63_middles_holds : PySem.Challenge.rw_shadowlinks_k63_middles.Holds := by
  w_on; o_law; k_head; (case hw => w_witness2)
  k_fill
  refine Sl.walk (l := PySem.Challenge.rw_shadowlinks_k63_middles) rfl rfl (fun w h Y => PySem.W.kIn_of Y) ?F
  case F =>
    intro w mg fa h KX G hmg
    refine' Sl.all_mk KX G hmg ?a2 ?a3 ?ex_3 ?kC_3 ?tC_3 ?ga_3 ?gg_3 ?eC_3 ?hC_3 ?isa_3 ?isn_3 ?ist_3 ?ism_3 ?sb_3_2 ?ki_3_2 ?eC_2 ?tC_2 ?hC_2 ?sb_3_3 ?ki_3_3 ?kv_3 ?a26 ?pg26 ?hd26 ?po26 ?os26 ?rd26 ?og26 ?sf26 ?mk26 ?oi26 ?kp26 ?a28 ?pg28 ?hd28 ?po28 ?os28 ?rd28 ?og28 ?sf28 ?mk28 ?oi28 ?kp28 ?at1563 ?fn1563 ?l1563 ?c1563 ?k1563 ?at1566 ?fn1566 ?l1566 ?c1566 ?k1566 ?at1567 ?fn1567 ?l1567 ?c1567 ?k1567 ?at1568 ?fn1568 ?l1568 ?c1568 ?k1568 ?at1569 ?fn1569 ?l1569 ?c1569 ?k1569 ?a5 ?l5 ?c5 ?k5 ?a6 ?l6 ?c6 ?k6 ?a8 ?l8 ?c8 ?k8 ?a9 ?l9 ?c9 ?k9 ?a10 ?l10 ?c10 ?k10 ?a11 ?l11 ?c11 ?k11 ?a12 ?l12 ?c12 ?k12 ?a14 ?l14 ?c14 ?k14 ?a16 ?l16 ?c16 ?k16 ?a17 ?l17 ?c17 ?k17 ?a19 ?l19 ?c19 ?k19 ?a20 ?l20 ?c20 ?k20 ?a21 ?l21 ?c21 ?k21 ?a22 ?l22 ?c22 ?k22 ?a23 ?l23 ?c23 ?k23 ?a24 ?l24 ?c24 ?k24 ?a30 ?l30 ?c30 ?k30 ?a31 ?l31 ?c31 ?k31 ?a32 ?l32 ?c32 ?k32 ?a33 ?l33 ?c33 ?k33 ?a34 ?l34 ?c34 ?k34 ?a35 ?l35 ?c35 ?k35 ?a36 ?l36 ?c36 ?k36 ?a37 ?l37 ?c37 ?k37 ?a38 ?l38 ?c38 ?k38 ?a39 ?l39 ?c39 ?k39 ?a40 ?l40 ?c40 ?k40 ?a41 ?l41 ?c41 ?k41 ?a42 ?l42 ?c42 ?k42 ?a43 ?l43 ?c43 ?k43 ?a44 ?l44 ?c44 ?k44 ?a45 ?l45 ?c45 ?k45 ?a46 ?l46 ?c46 ?k46 ?z_len ?z_int ?z_str ?z_bool ?z_list ?z_tuple ?z_dict ?z_range ?z_sorted ?z_isinstance ?z_any ?z_min ?z_ValueError
    (case a2 => k_is)
    (case a3 => k_is)
    (case ex_3 => k_exc)
    (case kC_3 => k_is)
    (case tC_3 => k_is)
    (case ga_3 => k_is)
    (case gg_3 => k_is)
    (case eC_3 => k_is)
    (case hC_3 => k_is)
    (case isa_3 => k_is)
    (case isn_3 => k_is)
    (case ist_3 => k_is)
    (case ism_3 => k_is)
    (case sb_3_2 => first | rfl | k_is)
    (case ki_3_2 => first | kit_is | k_is)
    (case eC_2 => k_is)
    (case tC_2 => k_is)
    (case hC_2 => k_is)
    (case sb_3_3 => first | rfl | k_is)
    (case ki_3_3 => first | kit_is | k_is)
    (case kv_3 => first | kit_is | k_is)
    (case a26 => k_is)
    (case pg26 => k_is)
    (case hd26 => k_is)
    (case po26 => k_is)
    (case os26 => k_is)
    (case rd26 => k_is)
    (case og26 => k_is)
    (case sf26 => k_is)
    (case mk26 => k_is)
    (case oi26 => k_is)
    (case kp26 => k_is)
    (case a28 => k_is)
    (case pg28 => k_is)
    (case hd28 => k_is)
    (case po28 => k_is)
    (case os28 => k_is)
    (case rd28 => k_is)
    (case og28 => k_is)
    (case sf28 => k_is)
    (case mk28 => k_is)
    (case oi28 => k_is)
    (case kp28 => k_is)
    (case at1563 => k_is)
    (case fn1563 => k_is)
    (case l1563 => k_is)
    (case c1563 => k_is)
    (case k1563 => k_is)
    (case at1566 => k_is)
    (case fn1566 => k_is)
    (case l1566 => k_is)
    (case c1566 => k_is)
    (case k1566 => k_is)
    (case at1567 => k_is)
    (case fn1567 => k_is)
    (case l1567 => k_is)
    (case c1567 => k_is)
    (case k1567 => k_is)
    (case at1568 => k_is)
    (case fn1568 => k_is)
    (case l1568 => k_is)
    (case c1568 => k_is)
    (case k1568 => k_is)
    (case at1569 => k_is)
    (case fn1569 => k_is)
    (case l1569 => k_is)
    (case c1569 => k_is)
    (case k1569 => k_is)
    (case a5 => k_is)
    (case l5 => k_is)
    (case c5 => k_is)
    (case k5 => k_is)
    (case a6 => k_is)
    (case l6 => k_is)
    (case c6 => k_is)
    (case k6 => k_is)
    (case a8 => k_is)
    (case l8 => k_is)
    (case c8 => k_is)
    (case k8 => k_is)
    (case a9 => k_is)
    (case l9 => k_is)
    (case c9 => k_is)
    (case k9 => k_is)
    (case a10 => k_is)
    (case l10 => k_is)
    (case c10 => k_is)
    (case k10 => k_is)
    (case a11 => k_is)
    (case l11 => k_is)
    (case c11 => k_is)
    (case k11 => k_is)
    (case a12 => k_is)
    (case l12 => k_is)
    (case c12 => k_is)
    (case k12 => k_is)
    (case a14 => k_is)
    (case l14 => k_is)
    (case c14 => k_is)
    (case k14 => k_is)
    (case a16 => k_is)
    (case l16 => k_is)
    (case c16 => k_is)
    (case k16 => k_is)
    (case a17 => k_is)
    (case l17 => k_is)
    (case c17 => k_is)
    (case k17 => k_is)
    (case a19 => k_is)
    (case l19 => k_is)
    (case c19 => k_is)
    (case k19 => k_is)
    (case a20 => k_is)
    (case l20 => k_is)
    (case c20 => k_is)
    (case k20 => k_is)
    (case a21 => k_is)
    (case l21 => k_is)
    (case c21 => k_is)
    (case k21 => k_is)
    (case a22 => k_is)
    (case l22 => k_is)
    (case c22 => k_is)
    (case k22 => k_is)
    (case a23 => k_is)
    (case l23 => k_is)
    (case c23 => k_is)
    (case k23 => k_is)
    (case a24 => k_is)
    (case l24 => k_is)
    (case c24 => k_is)
    (case k24 => k_is)
    (case a30 => k_is)
    (case l30 => k_is)
    (case c30 => k_is)
    (case k30 => k_is)
    (case a31 => k_is)
    (case l31 => k_is)
    (case c31 => k_is)
    (case k31 => k_is)
    (case a32 => k_is)
    (case l32 => k_is)
    (case c32 => k_is)
    (case k32 => k_is)
    (case a33 => k_is)
    (case l33 => k_is)
    (case c33 => k_is)
    (case k33 => k_is)
    (case a34 => k_is)
    (case l34 => k_is)
    (case c34 => k_is)
    (case k34 => k_is)
    (case a35 => k_is)
    (case l35 => k_is)
    (case c35 => k_is)
    (case k35 => k_is)
    (case a36 => k_is)
    (case l36 => k_is)
    (case c36 => k_is)
    (case k36 => k_is)
    (case a37 => k_is)
    (case l37 => k_is)
    (case c37 => k_is)
    (case k37 => k_is)
    (case a38 => k_is)
    (case l38 => k_is)
    (case c38 => k_is)
    (case k38 => k_is)
    (case a39 => k_is)
    (case l39 => k_is)
    (case c39 => k_is)
    (case k39 => k_is)
    (case a40 => k_is)
    (case l40 => k_is)
    (case c40 => k_is)
    (case k40 => k_is)
    (case a41 => k_is)
    (case l41 => k_is)
    (case c41 => k_is)
    (case k41 => k_is)
    (case a42 => k_is)
    (case l42 => k_is)
    (case c42 => k_is)
    (case k42 => k_is)
    (case a43 => k_is)
    (case l43 => k_is)
    (case c43 => k_is)
    (case k43 => k_is)
    (case a44 => k_is)
    (case l44 => k_is)
    (case c44 => k_is)
    (case k44 => k_is)
    (case a45 => k_is)
    (case l45 => k_is)
    (case c45 => k_is)
    (case k45 => k_is)
    (case a46 => k_is)
    (case l46 => k_is)
    (case c46 => k_is)
    (case k46 => k_is)
    (case z_len => k_is)
    (case z_int => k_is)
    (case z_str => k_is)
    (case z_bool => k_is)
    (case z_list => k_is)
    (case z_tuple => k_is)
    (case z_dict => k_is)
    (case z_range => k_is)
    (case z_sorted => k_is)
    (case z_isinstance => k_is)
    (case z_any => k_is)
    (case z_min => k_is)
    (case z_ValueError => k_is)
