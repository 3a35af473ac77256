import PyProof.Rows.All
import Wide.All
import OpenK.AllK
import Wide.FinOn
import HandS.ForMost
import HandS.Walk
import HandS.IsInst
import HandS.Wide
import HandS.Gcd
import HandS.Star
import HandS.Flow
import HandS.EndBits
import HandS.Conv
import HandS.Deep
import HandS.TupAny
import HandS.Codes
import KE.SortData
import KE.SortKeyHeap
import KE.DataCmp
import KE.DataEq
import HandS.Style
import HandS.ExcOwn
import HandS.CallSlots
import HandS.Property
import HandS.Iter
import HandS.IterVal
import KE.KOpsOwn
import KE.KOwnIter
import HandS.OwnIter
import HandS.ClsMeth
import HandS.Defaults
import HandS.TupLe
import OpenK.KMeth
import PySem.Challenge.RW_shadowlinks_k23_ratios_and_sums
set_option Elab.async false
set_option linter.all false
set_option maxRecDepth 100000
set_option maxHeartbeats 4000000
namespace Sl
open PySem PySem.Spec PyProof.Rows L2

/-- a tuple, as it stands or held -/
def isTup : HO → Bool
  | .tup _ => true
  | .frz _ (.tup _) => true
  | _ => false
/-- a new address -/
structure Fr (H : Hp) (p : Addr) : Prop where
  eq : H p = none
/-- all stands but what is at A (tuples stand anyway) -/
def Kp (A : List Addr) (H H' : Hp) : Prop := ∀ a o, H a = some o → (a ∉ A ∨ isTup o = true) → H' a = some o
section
variable {A B : List Addr} {H H' H1 H2 : Hp} {p q a : Addr} {o o' u : HO}
theorem Kp.refl : Kp A H H := fun _ _ h _ => h
theorem Kp.trans (x : Kp A H H1) (y : Kp A H1 H2) : Kp A H H2 := fun a o h k => y a o (x a o h k) k
theorem Kp.sub (x : Kp A H H') (h : ∀ a ∈ A, a ∈ B) : Kp B H H' := fun a o e k => x a o e (k.imp (fun n m => n (h a m)) id)
theorem Kp.nil (x : Kp [] H H') : Kp B H H' := x.sub fun _ h => nomatch h
theorem Kp.of_same (x : Same H H') : Kp A H H' := fun a o h _ => x a o h
theorem Kp.same (x : Kp [] H H') : Same H H' := fun a o h => x a o h (.inl (by simp))
theorem Kp.new (h : H p = none) : Kp A H (upd H p o) := fun a u e _ => by
  rw [upd_ne (ne_of_none e h)]; exact e
theorem Kp.own (h : H p = some o) (t : isTup o = false) (m : p ∈ A) : Kp A H (upd H p o') := fun a u e k => by
  by_cases z : a = p
  · subst z
    rw [h] at e
    cases e
    rcases k with k | k
    · exact absurd m k
    · rw [t] at k; cases k
  · rw [upd_ne z]; exact e
/-- a new one, then changed: nothing that stood is touched -/
theorem Kp.back (h : H p = none) (x : Kp (p :: A) H H') : Kp A H H' := fun a o e k => x a o e (k.imp (fun n => by
  simp only [List.mem_cons, not_or]
  exact ⟨ne_of_none e h, n⟩) id)
/-- a change at what was new -/
theorem Kp.put (x : Kp A H H1) (h : H p = none) : Kp A H (upd H1 p o) := fun a u e k => by
  rw [upd_ne (ne_of_none e h)]; exact x a u e k
theorem Kp.none (x : Kp A H H') (n : a ∉ A) (h : H' a = none) : H a = none := by
  cases e : H a with
  | none => rfl
  | some o => have := x _ _ e (.inl n); rw [h] at this; cases this
theorem Kp.get (x : Kp A H H') (h : H a = some o) (k : a ∉ A ∨ isTup o = true) : H' a = some o := x a o h k
theorem Kp.rd (x : Kp A H H') (h : Rd H a o) (n : a ∉ A) : Rd H' a o := by
  rcases h with h | ⟨z, h⟩
  · exact .inl (x _ _ h (.inl n))
  · exact .inr ⟨z, x _ _ h (.inl n)⟩
theorem Kp.sqT {K : PySem.W.Frag} {xs : List V} (x : Kp A H H') (h : SqT K H a xs) : SqT K H' a xs := by
  rcases h with (h | ⟨z, h⟩) | h
  · exact .inl (.inl (x _ _ h (.inr rfl)))
  · exact .inl (.inr ⟨z, x _ _ h (.inr rfl)⟩)
  · exact .inr h
theorem Kp.sqL {K : PySem.W.Frag} {xs : List V} (x : Kp A H H') (n : a ∉ A) (h : SqL K H a xs) : SqL K H' a xs := by
  rcases h with h | h
  · exact .inl (x.rd h n)
  · exact .inr h
theorem Fr.ne (f : Fr H q) (h : H p = some o) : p ≠ q := ne_of_none h f.eq
theorem ne_kind (h : H p = some o) (h' : H q = some u) (d : o ≠ u) : p ≠ q := ne_of h h' d
end

/-! ### data that stands -/
section
variable (A : List Addr) (K : PySem.W.Frag) (H : Hp)
mutual
inductive Dv : V → PyData → Prop
  | non : Dv .non .none
  | bl (b : Bool) : Dv (.bl b) (.bool b)
  | int (i : Int) : Dv (.int i) (.int i)
  | str (x : Str) : Dv (.str x) (.str x)
  | lst {a : Addr} {xs : List V} {ds : List PyData} : Rd H a (.lst xs) → a ∉ A → DvAll xs ds → Dv (.ref a) (.list ds)
  | tup {a : Addr} {xs : List V} {ds : List PyData} : SqT K H a xs → DvAll xs ds → Dv (.ref a) (.tuple ds)
inductive DvAll : List V → List PyData → Prop
  | nil : DvAll [] []
  | cons {v : V} {vs : List V} {d : PyData} {ds : List PyData} : Dv v d → DvAll vs ds → DvAll (v :: vs) (d :: ds)
end
end
section
variable {A B : List Addr} {K : PySem.W.Frag} {H H' : Hp} {p q a : Addr} {o o' u : HO} {v : V} {d : PyData}
mutual
theorem Dv.kp (k : Kp A H H') : ∀ {v : V} {d : PyData}, Dv A K H v d → Dv A K H' v d
  | _, _, .non => .non
  | _, _, .bl b => .bl b
  | _, _, .int i => .int i
  | _, _, .str x => .str x
  | _, _, .lst h n t => .lst (k.rd h n) n (DvAll.kp k t)
  | _, _, .tup h t => .tup (k.sqT h) (DvAll.kp k t)
theorem DvAll.kp (k : Kp A H H') : ∀ {vs : List V} {ds : List PyData}, DvAll A K H vs ds → DvAll A K H' vs ds
  | _, _, .nil => .nil
  | _, _, .cons h t => .cons (Dv.kp k h) (DvAll.kp k t)
end
mutual
theorem Dv.sub (k : ∀ a ∈ B, a ∈ A) : ∀ {v : V} {d : PyData}, Dv A K H v d → Dv B K H v d
  | _, _, .non => .non
  | _, _, .bl b => .bl b
  | _, _, .int i => .int i
  | _, _, .str x => .str x
  | _, _, .lst h n t => .lst h (fun m => n (k _ m)) (DvAll.sub k t)
  | _, _, .tup h t => .tup h (DvAll.sub k t)
theorem DvAll.sub (k : ∀ a ∈ B, a ∈ A) : ∀ {vs : List V} {ds : List PyData}, DvAll A K H vs ds → DvAll B K H vs ds
  | _, _, .nil => .nil
  | _, _, .cons h t => .cons (Dv.sub k h) (DvAll.sub k t)
end
theorem rd_ne (h : H p = none) (r : Rd H a o) : a ≠ p := by
  rcases r with r | ⟨z, r⟩
  · exact ne_of_none r h
  · exact ne_of_none r h
mutual
/-- a new address is none of the data's -/
theorem Dv.more (h : H p = none) : ∀ {v : V} {d : PyData}, Dv A K H v d → Dv (p :: A) K H v d
  | _, _, .non => .non
  | _, _, .bl b => .bl b
  | _, _, .int i => .int i
  | _, _, .str x => .str x
  | _, _, .lst r n t => .lst r (by simp only [List.mem_cons, not_or]; exact ⟨rd_ne h r, n⟩) (DvAll.more h t)
  | _, _, .tup r t => .tup r (DvAll.more h t)
theorem DvAll.more (h : H p = none) : ∀ {vs : List V} {ds : List PyData}, DvAll A K H vs ds → DvAll (p :: A) K H vs ds
  | _, _, .nil => .nil
  | _, _, .cons r t => .cons (Dv.more h r) (DvAll.more h t)
end
mutual
def flatT : PyData → Bool
  | .list _ => false
  | .dict _ => false
  | .tuple ds => flatTs ds
  | _ => true
def flatTs : List PyData → Bool
  | [] => true
  | d :: ds => flatT d && flatTs ds
end
mutual
theorem Dv.any : ∀ {v : V} {d : PyData}, flatT d = true → Dv A K H v d → Dv B K H v d
  | _, _, _, .non => .non
  | _, _, _, .bl b => .bl b
  | _, _, _, .int i => .int i
  | _, _, _, .str x => .str x
  | _, _, e, .lst r n t => by simp [flatT] at e
  | _, _, e, .tup r t => .tup r (DvAll.any (by simpa [flatT] using e) t)
theorem DvAll.any : ∀ {vs : List V} {ds : List PyData}, flatTs ds = true → DvAll A K H vs ds → DvAll B K H vs ds
  | _, _, _, .nil => .nil
  | _, _, e, .cons r t => by
    simp only [flatTs, Bool.and_eq_true] at e
    exact .cons (Dv.any e.1 r) (DvAll.any e.2 t)
end
theorem flatTs_map {α : Type} {f : α → PyData} (h : ∀ x, flatT (f x) = true) : ∀ xs : List α, flatTs (xs.map f) = true
  | [] => rfl
  | x :: xs => by rw [List.map_cons, flatTs, h x, flatTs_map h xs]; rfl
mutual
theorem Dv.dp : ∀ {v : V} {d : PyData}, Dv A K H v d → Dp K H v d
  | _, _, .non => .non
  | _, _, .bl b => .bl b
  | _, _, .int i => .int i
  | _, _, .str x => .str x
  | _, _, .lst h n t => .lst (.inl h) (DvAll.dp t)
  | _, _, .tup h t => .tup h (DvAll.dp t)
theorem DvAll.dp : ∀ {vs : List V} {ds : List PyData}, DvAll A K H vs ds → DpAll K H vs ds
  | _, _, .nil => .nil
  | _, _, .cons h t => .cons (Dv.dp h) (DvAll.dp t)
end
theorem DvAll.length : ∀ {vs : List V} {ds : List PyData}, DvAll A K H vs ds → vs.length = ds.length
  | _, _, .nil => rfl
  | _, _, .cons _ t => congrArg Nat.succ (DvAll.length t)
theorem DvAll.at : ∀ {vs : List V} {ds : List PyData} {i : Nat} {v : V}, DvAll A K H vs ds → vs[i]? = some v → ∃ d, ds[i]? = some d ∧ Dv A K H v d
  | _, _, i, v, .nil, h => by simp at h
  | _, _, 0, v, .cons h _, e => by cases e; exact ⟨_, rfl, h⟩
  | _, _, i + 1, v, .cons _ t, e => DvAll.at (i := i) t e
theorem DvAll.at' : ∀ {vs : List V} {ds : List PyData} {i : Nat} {d : PyData}, DvAll A K H vs ds → ds[i]? = some d → ∃ v, vs[i]? = some v ∧ Dv A K H v d
  | _, _, i, v, .nil, h => by simp at h
  | _, _, 0, v, .cons h _, e => by cases e; exact ⟨_, rfl, h⟩
  | _, _, i + 1, v, .cons _ t, e => DvAll.at' (i := i) t e
theorem DvAll.app : ∀ {vs ws : List V} {ds es : List PyData}, DvAll A K H vs ds → DvAll A K H ws es → DvAll A K H (vs ++ ws) (ds ++ es)
  | _, _, _, _, .nil, h => h
  | _, _, _, _, .cons h t, r => .cons h (DvAll.app t r)
theorem DvAll.one (h : Dv A K H v d) : DvAll A K H [v] [d] := .cons h .nil
theorem DvAll.snoc {vs : List V} {ds : List PyData} (t : DvAll A K H vs ds) (h : Dv A K H v d) : DvAll A K H (vs ++ [v]) (ds ++ [d]) := t.app (.one h)
theorem DvAll.strs : ∀ {vs : List V} {ss : List Str}, DvAll A K H vs (ss.map .str) → vs = ss.map V.str
  | _, [], .nil => rfl
  | _, s :: ss, .cons h t => by
    cases h
    rw [List.map_cons, DvAll.strs t]
theorem DvAll.ints : ∀ {vs : List V} {ss : List Int}, DvAll A K H vs (ss.map .int) → vs = ss.map V.int
  | _, [], .nil => rfl
  | _, s :: ss, .cons h t => by
    cases h
    rw [List.map_cons, DvAll.ints t]
theorem dv_strs : ∀ (ss : List Str), DvAll A K H (ss.map V.str) (ss.map .str)
  | [] => .nil
  | s :: ss => .cons (.str s) (dv_strs ss)
theorem dv_ints : ∀ (ss : List Int), DvAll A K H (ss.map V.int) (ss.map .int)
  | [] => .nil
  | s :: ss => .cons (.int s) (dv_ints ss)
theorem Dv.tup_inv {ds : List PyData} (h : Dv A K H v (.tuple ds)) : ∃ a xs, v = .ref a ∧ SqT K H a xs ∧ DvAll A K H xs ds := by
  cases h with
  | tup r t => exact ⟨_, _, rfl, r, t⟩
theorem Dv.lst_inv {ds : List PyData} (h : Dv A K H v (.list ds)) : ∃ a xs, v = .ref a ∧ Rd H a (.lst xs) ∧ a ∉ A ∧ DvAll A K H xs ds := by
  cases h with
  | lst r n t => exact ⟨_, _, rfl, r, n, t⟩
theorem Dv.str_inv {s : Str} (h : Dv A K H v (.str s)) : v = .str s := by cases h; rfl
theorem Dv.int_inv {s : Int} (h : Dv A K H v (.int s)) : v = .int s := by cases h; rfl
theorem Dv.bl_inv {s : Bool} (h : Dv A K H v (.bool s)) : v = .bl s := by cases h; rfl
theorem Dv.non_inv (h : Dv A K H v .none) : v = .non := by cases h; rfl
end

theorem rvRef (a : Addr) : RelV (.ref a) (.ref a) := rfl
theorem rvInt (i : Int) (t : Tok) : RelV (.int i) (.int i t) := ⟨t, rfl⟩
theorem rvStr (x : Str) (t : Tok) : RelV (.str x) (.str x t) := ⟨t, rfl⟩
theorem rvBl (b : Bool) : RelV (.bl b) (.bool b) := rfl
theorem rvNon : RelV .non .none := rfl
theorem sz {n : Nat} (h : n ≤ 100000) : n ≤ sizeLine := Nat.le_trans h (by decide)
theorem szl {n : Nat} (h : n < 100000) : n < sizeLine := Nat.lt_of_lt_of_le h (by decide)
/-! ### the source of draws -/
def Src (H : Hp) (a : Addr) : Prop := ∃ n c : Int, H a = some (.lst [.int n, .int c])
theorem Src.kp {A : List Addr} {H H' : Hp} {a : Addr} (k : Kp A H H') (n : a ∉ A) (h : Src H a) : Src H' a := by
  obtain ⟨x, y, e⟩ := h
  exact ⟨x, y, k _ _ e (.inl n)⟩
end Sl
namespace Sl
open PySem PySem.Spec PyProof.Rows L2
section
variable {X : Cx} {CX : CXT} {k : Nat} {f : Addr} {sp : Sp} {E : XK} {x : Str} {e : Expr} {es : List Expr} {t : TA} {p pos : Pos}
/-- f(e, ..), f of any binding, by a positional promise -/
theorem pe_callF (F : FnR X.prog X.w X.K X.mg X.base CX k f sp) (hr : Room k X.A) (hk : PySem.W.keepIn X.K (.ref f) = true) (hg : Gl X x) (hm : X.mg x = some (.ref f)) (hx : Passes CX X E) (ha : PA X (e :: es) t) (hdb : (x == ("__debug__" : Str)) = false := by decide)
    (he : starEach (e :: es) X.env = (false, eval e X.env) :: starEach es X.env := by rfl) (hpl : (backTo pos (starEach es X.env)).any (·.1) = false := by rfl) :
    PE X (.Call (.Name x p) (e :: es) [] pos) (fun σ H Q => t σ H fun vs H1 => sp vs H1 Q E) := by
  refine ⟨fun pins s σ H Q I h => ?_⟩
  refine wpAny_Call_Name_kw (ld_glob I hg hm ?_ hdb)
  refine PySem.W.callWith_K (h₀ := X.base) I.ok.mod.kin hk (thn (ha.run pos pins s σ H _ I h) fun us s1 ⟨vs, H1, I1, r, q⟩ => ⟨I1.kIn, ?_⟩) he hpl
  exact wpAny_call (run_fnR F hr hx I1 r q)
/-- f(), f of any binding -/
theorem pe_callF0 (F : FnR X.prog X.w X.K X.mg X.base CX k f sp) (hr : Room k X.A) (hg : Gl X x) (hm : X.mg x = some (.ref f)) (hk : PySem.W.keepIn X.K (.ref f) = true) (hx : Passes CX X E)
    (hdb : (x == ("__debug__" : Str)) = false := by decide) : PE X (.Call (.Name x p) [] [] pos) (fun _ H Q => sp [] H Q E) := by
  refine ⟨fun pins s σ H Q I h => ?_⟩
  refine wpAny_Call_Name_kw (ld_glob I hg hm ?_ hdb)
  exact PySem.W.callWith_K0 I.kIn hk (wpAny_call (run_fnR F hr hx I .nil h))
/-- def f(.., *v): n written, the rest a new tuple -/
def star (n : Nat) (sp : Sp) : Sp := fun vs H Q E => ∃ ws rest, vs = ws ++ rest ∧ ws.length = n ∧ rest.length ≤ sizeLine ∧ ∀ p, H p = Option.none → sp (ws ++ [V.ref p]) (upd H p (.tup rest)) Q E
end
end Sl
namespace Sl
open PySem PySem.Spec PyProof.Rows L2
/-! ### two readings of one term -/
section
variable {X : Cx}
theorem pi_or {tg e : Expr} {w1 w2 : TI} (h1 : PI X tg e w1) (h2 : PI X tg e w2) : PI X tg e (fun σ H R => w1 σ H R ∨ w2 σ H R) :=
  ⟨fun pins s σ H R I h => h.elim (h1.run pins s σ H R I) (h2.run pins s σ H R I)⟩
theorem pe_or2 {e : Expr} {t1 t2 : TE} (h1 : PE X e t1) (h2 : PE X e t2) : PE X e (fun σ H Q => t1 σ H Q ∨ t2 σ H Q) :=
  ⟨fun pins s σ H R I h => h.elim (h1.run pins s σ H R I) (h2.run pins s σ H R I)⟩
theorem pt_or2 {e : Expr} {t1 t2 : TT} (h1 : PT X e t1) (h2 : PT X e t2) : PT X e (fun σ H Q => t1 σ H Q ∨ t2 σ H Q) :=
  ⟨fun pins s σ H R I h => h.elim (h1.run pins s σ H R I) (h2.run pins s σ H R I)⟩
theorem op_or2 {f : Value → Value → Sem Value} {r1 r2 : R2} (h1 : OpR X f r1) (h2 : OpR X f r2) : OpR X f (fun x y H Q => r1 x y H Q ∨ r2 x y H Q) :=
  fun pins s σ H x y v u Q I rx ry h => h.elim (h1 pins s σ H x y v u Q I rx ry) (h2 pins s σ H x y v u Q I rx ry)
theorem cr_or2 {f : Value} {r1 r2 : List V → Hp → VK → Prop} (h1 : CallR X f r1) (h2 : CallR X f r2) : CallR X f (fun xs H Q => r1 xs H Q ∨ r2 xs H Q) :=
  fun pins s σ H xs us Q I r h => h.elim (h1 pins s σ H xs us Q I r) (h2 pins s σ H xs us Q I r)
end
theorem nox_ex {X : Cx} {b : List Stmt} {R : TS → Prop} (h : ∃ t, PSs X.nox b t ∧ R t) : ∃ t, PSs X b t ∧ R t := by
  obtain ⟨t, h1, h2⟩ := h
  exact ⟨t, h1.nox, h2⟩
/-! ### texts in ascending order -/
def slt (a b : Str) : Prop := TL.tl a < TL.tl b
instance (a b : Str) : Decidable (slt a b) := inferInstanceAs (Decidable (TL.tl a < TL.tl b))
theorem ltCps_iff : ∀ a b : List Nat, ltCps a b = true ↔ a < b
  | [], [] => by simp [ltCps]
  | [], b :: bs => by simp [ltCps]
  | a :: as, [] => by simp [ltCps]
  | a :: as, b :: bs => by
    have ih := ltCps_iff as bs
    simp only [ltCps, List.cons_lt_cons_iff, Bool.or_eq_true, Bool.and_eq_true, decide_eq_true_eq, beq_iff_eq, ih]
theorem slt_trans {a b c : Str} (h : slt a b) (h' : slt b c) : slt a c := List.lt_trans h h'
theorem slt_irrefl (a : Str) : ¬ slt a a := List.lt_irrefl _
theorem slt_tri (a b : Str) : slt a b ∨ a = b ∨ slt b a := by
  by_cases h : slt a b
  · exact .inl h
  · by_cases h' : slt b a
    · exact .inr (.inr h')
    · exact .inr (.inl (TL.ext_tl (List.le_antisymm (List.not_lt.mp h') (List.not_lt.mp h))))
theorem slt_asymm {a b : Str} (h : slt a b) : ¬ slt b a := fun h' => slt_irrefl _ (slt_trans h h')
/-- strictly ascending -/
def Asc (l : List Str) : Prop := l.Pairwise slt
theorem rising_pw : ∀ (p : Str) (l : List Str), risingS p l = true → (p :: l).Pairwise (fun a b => ¬ slt b a)
  | p, [], _ => List.pairwise_singleton _ _
  | p, x :: r, h => by
    simp only [risingS, Bool.and_eq_true, Bool.not_eq_true'] at h
    have ih := rising_pw x r h.2
    have hpx : ¬ slt x p := fun z => by rw [(ltCps_iff _ _).mpr z] at h; exact Bool.noConfusion h.1
    refine List.pairwise_cons.mpr ⟨fun y hy => ?_, ih⟩
    rcases List.mem_cons.mp hy with e | e
    · subst e; exact hpx
    · intro z
      have hxy := (List.pairwise_cons.mp ih).1 y e
      rcases slt_tri x y with q | q | q
      · exact hpx (slt_trans q z)
      · subst q; exact hpx z
      · exact hxy q
theorem asc_of_sorted {l : List Str} (h : sortedS l = true) (nd : l.Nodup) : Asc l := by
  cases l with
  | nil => exact List.Pairwise.nil
  | cons x r =>
    have hp := rising_pw x r h
    refine List.Pairwise.imp₂ (fun a b h1 h2 => ?_) hp nd
    rcases slt_tri a b with q | q | q
    · exact q
    · exact absurd q h2
    · exact absurd q h1
theorem Asc.nodup {l : List Str} (h : Asc l) : l.Nodup := h.imp fun q e => by subst e; exact slt_irrefl _ q
/-- ascending lists with the same members are one -/
theorem Asc.ext : ∀ {l m : List Str}, Asc l → Asc m → (∀ x, x ∈ l ↔ x ∈ m) → l = m
  | [], [], _, _, _ => rfl
  | [], y :: m, _, _, h => absurd ((h y).mpr (List.mem_cons_self ..)) List.not_mem_nil
  | x :: l, [], _, _, h => absurd ((h x).mp (List.mem_cons_self ..)) List.not_mem_nil
  | x :: l, y :: m, hl, hm, h => by
    have h1 := List.pairwise_cons.mp hl
    have h2 := List.pairwise_cons.mp hm
    have e : x = y := by
      rcases List.mem_cons.mp ((h x).mp (List.mem_cons_self ..)) with e | e
      · exact e
      · rcases List.mem_cons.mp ((h y).mpr (List.mem_cons_self ..)) with e' | e'
        · exact e'.symm
        · exact absurd (slt_trans (h2.1 x e) (h1.1 y e')) (slt_irrefl _)
    subst e
    rw [Asc.ext h1.2 h2.2 fun z => ?_]
    constructor
    · intro hz
      rcases List.mem_cons.mp ((h z).mp (List.mem_cons_of_mem _ hz)) with e | e
      · subst e; exact absurd (h1.1 _ hz) (slt_irrefl _)
      · exact e
    · intro hz
      rcases List.mem_cons.mp ((h z).mpr (List.mem_cons_of_mem _ hz)) with e | e
      · subst e; exact absurd (h2.1 _ hz) (slt_irrefl _)
      · exact e
/-- a list or a tuple -/
def Sq (K : PySem.W.Frag) (H : Hp) (a : Addr) (xs : List V) : Prop := SqL K H a xs ∨ SqT K H a xs
/-- one for each -/
def All2 {α β : Type} (R : α → β → Prop) : List α → List β → Prop
  | [], [] => True
  | x :: xs, y :: ys => R x y ∧ All2 R xs ys
  | _, _ => False
theorem All2.at {α β : Type} {R : α → β → Prop} : ∀ {xs : List α} {ys : List β} {i : Nat} {x : α}, All2 R xs ys → xs[i]? = some x → ∃ y, ys[i]? = some y ∧ R x y
  | [], _, _, _, _, e => by simp at e
  | x :: xs, [], _, _, h, _ => False.elim h
  | x :: xs, y :: ys, 0, _, h, e => by cases e; exact ⟨y, rfl, h.1⟩
  | x :: xs, y :: ys, i + 1, _, h, e => All2.at (i := i) h.2 e
theorem All2.length {α β : Type} {R : α → β → Prop} : ∀ {xs : List α} {ys : List β}, All2 R xs ys → xs.length = ys.length
  | [], [], _ => rfl
  | [], _ :: _, h => False.elim h
  | _ :: _, [], h => False.elim h
  | x :: xs, y :: ys, h => congrArg Nat.succ (All2.length h.2)
theorem All2.imp {α β : Type} {R S : α → β → Prop} (k : ∀ x y, R x y → S x y) : ∀ {xs : List α} {ys : List β}, All2 R xs ys → All2 S xs ys
  | [], [], _ => trivial
  | [], _ :: _, h => False.elim h
  | _ :: _, [], h => False.elim h
  | x :: xs, y :: ys, h => ⟨k _ _ h.1, All2.imp k h.2⟩
theorem All2.snoc {α β : Type} {R : α → β → Prop} : ∀ {xs : List α} {ys : List β} {x : α} {y : β}, All2 R xs ys → R x y → All2 R (xs ++ [x]) (ys ++ [y])
  | [], [], _, _, _, h => ⟨h, trivial⟩
  | [], _ :: _, _, _, h, _ => False.elim h
  | _ :: _, [], _, _, h, _ => False.elim h
  | x :: xs, y :: ys, _, _, h, k => ⟨h.1, All2.snoc h.2 k⟩
end Sl
namespace Sl
open PySem PySem.Spec PyProof.Rows L2
/-! ### tests whose answer is told -/
/-- the answer is b, the heap stands -/
def An (t : TT) (σ : L2.St) (H : Hp) (b : Bool) : Prop := ∀ Q : Bool → Hp → Prop, Q b H → t σ H Q
/-- the value is v, the heap stands -/
def Vl (t : TE) (σ : L2.St) (H : Hp) (v : V) : Prop := ∀ Q : VK, Q v H → t σ H Q
section
variable {σ : L2.St} {H : Hp} {t u c : TT} {a b : Bool} {ta tb : TE} {x y z v : V} {D : Ends} {t1 t2 s2 : TS}
theorem an_and (h1 : An t σ H a) (h2 : a = true → An u σ H b) : An (tAnd t u) σ H (a && b) := fun Q q => by
  refine h1 _ ?_
  cases a with
  | true => exact h2 rfl Q q
  | false => exact q
theorem an_or (h1 : An t σ H a) (h2 : a = false → An u σ H b) : An (tOr t u) σ H (a || b) := fun Q q => by
  refine h1 _ ?_
  cases a with
  | true => exact q
  | false => exact h2 rfl Q q
theorem an_not (h1 : An t σ H a) : An (tNot t) σ H (!a) := fun Q q => h1 _ q
theorem an_cmp {r : R2} (h1 : Vl ta σ H x) (h2 : Vl tb σ H y) (hr : ∀ Q : VK, Q (.bl b) H → r x y H Q) : An (tTest (tOp r ta tb)) σ H b := fun Q q => h1 _ (h2 _ (hr _ ⟨b, rfl, q⟩))
theorem an_val (h1 : Vl ta σ H (.bl b)) : An (tB ta) σ H b := fun Q q => h1 _ ⟨b, rfl, q⟩
theorem an_test (h1 : Vl ta σ H (.bl b)) : An (tTest ta) σ H b := fun Q q => h1 _ ⟨b, rfl, q⟩
theorem vl_var {i : Nat} (h : σ[i]? = some (some v)) : Vl (tVar i) σ H v := fun Q q => ⟨v, h, q⟩
theorem vl_c : Vl (tC v) σ H v := fun Q q => q
theorem vl_op {r : R2} (h1 : Vl ta σ H x) (h2 : Vl tb σ H y) (hr : ∀ Q : VK, Q z H → r x y H Q) : Vl (tOp r ta tb) σ H z := fun Q q => h1 _ (h2 _ (hr _ q))
theorem vl_un {r : V → Hp → VK → Prop} (h1 : Vl ta σ H x) (hr : ∀ Q : VK, Q z H → r x H Q) : Vl (tUn r ta) σ H z := fun Q q => h1 _ (hr _ q)
theorem vl_cb1 {r : List V → Hp → VK → Prop} (h1 : Vl ta σ H x) (hr : ∀ Q : VK, Q z H → r [x] H Q) : Vl (tCB r (tCons ta tNil)) σ H z := fun Q q => h1 _ (hr _ q)
theorem vl_cb2 {r : List V → Hp → VK → Prop} (h1 : Vl ta σ H x) (h2 : Vl tb σ H y) (hr : ∀ Q : VK, Q z H → r [x, y] H Q) : Vl (tCB r (tCons ta (tCons tb tNil))) σ H z := fun Q q => h1 _ (h2 _ (hr _ q))
theorem vl_chain {r r' : R2} {tc : TE} {w : V} (h1 : Vl ta σ H x) (h2 : Vl tb σ H y) (h3 : a = true → Vl tc σ H w) (hr : ∀ Q : VK, Q (.bl a) H → r x y H Q) (hr' : a = true → ∀ Q : VK, Q (.bl b) H → r' y w H Q) : Vl (tChain r r' ta tb tc) σ H (.bl (a && b)) := fun Q q => by
  refine h1 _ (h2 _ (hr _ ⟨a, rfl, ?_⟩))
  cases a with
  | true => exact h3 rfl _ (hr' rfl _ q)
  | false => exact q
theorem vl_not (h1 : Vl ta σ H (.bl a)) : Vl (tNotV ta) σ H (.bl (!a)) := fun Q q => h1 _ ⟨a, rfl, q⟩
theorem vl_andV (h1 : Vl ta σ H (.bl a)) (h2 : a = true → Vl tb σ H (.bl b)) : Vl (tAndV ta tb) σ H (.bl (a && b)) := fun Q q => h1 _ ⟨a, rfl, by
  cases a with
  | true => exact h2 rfl _ q
  | false => exact q⟩
theorem vl_orV (h1 : Vl ta σ H (.bl a)) (h2 : a = false → Vl tb σ H (.bl b)) : Vl (tOrV ta tb) σ H (.bl (a || b)) := fun Q q => h1 _ ⟨a, rfl, by
  cases a with
  | true => exact q
  | false => exact h2 rfl _ q⟩
theorem if_an (h : An c σ H b) (k1 : b = true → t1 D σ H) (k2 : b = false → t2 D σ H) : tIfS c t1 t2 D σ H := by
  refine h _ ?_
  cases b with
  | true => exact k1 rfl
  | false => exact k2 rfl
theorem seq_if (h : An c σ H b) (k1 : b = true → t1 { D with nx := s2 D } σ H) (k2 : b = false → t2 { D with nx := s2 D } σ H) : tSeq (tIfS c t1 t2) s2 D σ H := if_an h k1 k2
theorem seq_if0 (h : An c σ H b) (k1 : b = true → t1 { D with nx := s2 D } σ H) (k2 : b = false → s2 D σ H) : tSeq (tIfS c t1 tNext) s2 D σ H := if_an h k1 k2
theorem seq_ifK0 (h : t σ H fun b H' => if b = true then t1 { D with nx := s2 D } σ H' else s2 D σ H') : tSeq (tIfS t t1 tNext) s2 D σ H := h
theorem seq_set {i : Nat} (h : Vl ta σ H v) (k : s2 D (σ.set i (some v)) H) : tSeq (tAsg ta (gName i)) s2 D σ H := h _ k
theorem seq_setK {i : Nat} (h : ta σ H fun v H' => s2 D (σ.set i (some v)) H') : tSeq (tAsg ta (gName i)) s2 D σ H := h
theorem setK {i : Nat} (h : ta σ H fun v H' => D.nx (σ.set i (some v)) H') : tAsg ta (gName i) D σ H := h
theorem seq_dropK (h : ta σ H fun _ H' => s2 D σ H') : tSeq (tDrop ta) s2 D σ H := h
theorem dropK' (h : ta σ H fun _ H' => D.nx σ H') : tDrop ta D σ H := h
theorem retK (h : ta σ H D.rt) : tRet ta D σ H := h
theorem if_anK (h : t σ H fun b H' => if b = true then t1 D σ H' else t2 D σ H') : tIfS t t1 t2 D σ H := h
theorem seq_ifK (h : t σ H fun b H' => if b = true then t1 { D with nx := s2 D } σ H' else t2 { D with nx := s2 D } σ H') : tSeq (tIfS t t1 t2) s2 D σ H := h
theorem seq_forK {wi : TI} {g : TG} {tb : TS} (h : tFor wi g tb { D with nx := s2 D } σ H) : tSeq (tFor wi g tb) s2 D σ H := h
theorem seq_whileK {c : TT} {tb : TS} (h : tWhile c tb { D with nx := s2 D } σ H) : tSeq (tWhile c tb) s2 D σ H := h
theorem seq_parK {i j : Nat} {ta : TA} (h : ta σ H fun vs H1 => ∃ v w, vs = [v, w] ∧ s2 D ((σ.set i (some v)).set j (some w)) H1) : tSeq (tPar i j ta) s2 D σ H := h
theorem parK {i j : Nat} {ta : TA} (h : ta σ H fun vs H1 => ∃ v w, vs = [v, w] ∧ D.nx ((σ.set i (some v)).set j (some w)) H1) : tPar i j ta D σ H := h
theorem gnK {i : Nat} {v : V} {Q : L2.St → Hp → Prop} (h : Q (σ.set i (some v)) H) : gName i v σ H Q := h
theorem yesK {Q : Bool → Hp → Prop} (h : Q true H) : tYes σ H Q := h
theorem nextK (h : D.nx σ H) : tNext D σ H := h
theorem ret_vl (h : Vl ta σ H v) (k : D.rt v H) : tRet ta D σ H := h _ k
theorem An.to (h : An t σ H a) (e : a = b) : An t σ H b := e ▸ h
theorem Vl.to (h : Vl ta σ H x) (e : x = y) : Vl ta σ H y := e ▸ h
end
/-- two ways that meet -/
theorem cutK {t u : TS} {D : Ends} {σ : L2.St} {H : Hp} (Mid : L2.St → Hp → Prop) (h1 : t { D with nx := Mid } σ H) (h2 : ∀ σ' H', Mid σ' H' → u D σ' H') : C8.tCut t u D σ H := ⟨Mid, h1, h2⟩
theorem an_use {c : TT} {σ : L2.St} {H : Hp} {b : Bool} {Q : Bool → Hp → Prop} (h : An c σ H b) (q : Q b H) : c σ H Q := h Q q
/-- a for and what stands behind it -/
theorem for_seq {J : It} {n : Nat} {G : Hp → Prop} {Y : Nat → Hp → V → Hp → Prop} (w : Walk J n G Y) {g : TG} {tb s2 : TS} {D : Ends} {σ : L2.St} {H : Hp} (Pv : Nat → L2.St → Hp → Prop) (h0 : Pv 0 σ H) (hG : ∀ i σ H, i ≤ n → Pv i σ H → G H)
    (hs : ∀ i x σ H H', i < n → Pv i σ H → Y i H x H' → g x σ H' fun σ2 H2 => tb { D with nx := Pv (i + 1), ct := Pv (i + 1), bk := s2 D } σ2 H2) (hd : ∀ σ H, Pv n σ H → s2 D σ H) :
    ∃ W : Nat → Nat → L2.St → Hp → Prop, (∃ m, W 0 m σ H) ∧ ∀ i m σ H, W i m σ H →
      (J.stop i H ∧ (Ends.mk (s2 D) D.rt D.bk D.ct).nx σ H) ∨ (J.go i H ∧ ∃ N : L2.St → Hp → Prop, (∀ σ' H', N σ' H' → ∃ m', m' < m ∧ W (i + 1) m' σ' H') ∧ ∀ x H', J.yld i H x H' → g x σ H' fun σ2 H2 => tb { (Ends.mk (s2 D) D.rt D.bk D.ct) with nx := N, ct := N, bk := (Ends.mk (s2 D) D.rt D.bk D.ct).nx } σ2 H2) :=
  for_it (D := Ends.mk (s2 D) D.rt D.bk D.ct) w Pv h0 hG hs hd
/-- one sign of a text -/
theorem sign_at {z : Str} {r : Int} (h0 : 0 ≤ r) (h1 : r < z.length) : ∃ c, atI z.cps.toList r = some c ∧ c ∈ TL.tl z := by
  obtain ⟨n, rfl⟩ := Int.eq_ofNat_of_zero_le h0
  have h : n < z.cps.toList.length := by
    have e : z.length = z.cps.toList.length := TL.len_tl z
    omega
  exact ⟨z.cps.toList[n], atI_nat (by simp), List.getElem_mem h⟩
end Sl
namespace Sl
open PySem PySem.Spec PyProof.Rows L2
/-! ### data of written depth -/
/-- all signs are signs -/
def okS (s : Str) : Prop := ∀ c ∈ TL.tl s, c < 1114112
theorem okS.ok {s : Str} (h : okS s) : PyData.canLay0 (.str s) = true := by
  show PyData.strOk s = true
  unfold PyData.strOk
  rw [Array.all_eq_true']
  intro c hc
  simpa using h c (Array.mem_toList_iff.mpr hc)
theorem lay_map {α : Type} {f : α → PyData} : ∀ {xs : List α}, (∀ x ∈ xs, (f x).canLay0 = true) → PyData.canLayAll0 (xs.map f) = true
  | [], _ => rfl
  | x :: xs, h => by
    rw [List.map_cons, PyData.canLayAll0, h x (List.mem_cons_self ..), lay_map fun y hy => h y (List.mem_cons_of_mem _ hy)]; rfl
theorem depth_map {α : Type} {f : α → PyData} {k : Nat} : ∀ {xs : List α}, (∀ x ∈ xs, (f x).depth ≤ k) → PyData.depthAll (xs.map f) ≤ k
  | [], _ => Nat.zero_le _
  | x :: xs, h => by
    rw [List.map_cons, PyData.depthAll]
    have h1 := h x (List.mem_cons_self ..)
    have h2 := depth_map (k := k) (xs := xs) fun y hy => h y (List.mem_cons_of_mem _ hy)
    omega
theorem shaped_of {d : PyData} (h : d.canLay0 = true) (h' : d.depth ≤ 64) : SeqAt.shaped d = true := by
  unfold SeqAt.shaped
  rw [h, decide_eq_true h']; rfl
theorem inV_strs {s : Str} : ∀ {ys : List Str}, inV (.str s) (ys.map V.str) = decide (s ∈ ys)
  | [] => rfl
  | y :: ys => by
    have ih := inV_strs (s := s) (ys := ys)
    unfold inV at ih ⊢
    rw [List.map_cons, List.any_cons, ih]
    show (y == s || decide (s ∈ ys)) = decide (s ∈ y :: ys)
    by_cases e : s = y
    · subst e; simp
    · have : (y == s) = false := by simp [Ne.symm e]
      rw [this]; simp [e]
theorem flat_strs (ys : List Str) : (ys.map V.str).all flatV = true := by
  rw [List.all_eq_true]
  intro v hv
  obtain ⟨s, _, rfl⟩ := List.mem_map.mp hv
  rfl
end Sl
namespace Sl
open PySem PySem.Spec PyProof.Rows L2
/-! ### rules by K alone (they go into a comprehension's block) -/
def rListOf (K : PySem.W.Frag) : List V → Hp → VK → Prop := fun xs H Q => ∃ p ys, xs = [.ref p] ∧ (SqL K H p ys ∨ SqT K H p ys) ∧ ∀ l, H l = none → Q (.ref l) (upd H l (.lst ys))
def rTupleOf (K : PySem.W.Frag) : List V → Hp → VK → Prop := fun xs H Q => ∃ p ys, xs = [.ref p] ∧ ((SqL K H p ys ∧ ∀ l, H l = none → Q (.ref l) (upd H l (.tup ys))) ∨ (SqT K H p ys ∧ Q (.ref p) H))
def rLenK (K : PySem.W.Frag) : List V → Hp → VK → Prop := fun xs H Q => ∃ x n, xs = [x] ∧ LenV K x H n ∧ Q (.int (n : Nat)) H
section
variable {X : Cx} {K : PySem.W.Frag}
theorem cK_list (e : X.K = K) : CallR X (.type "list") (rListOf K) := by subst e; exact call_list_of
theorem cK_tuple (e : X.K = K) : CallR X (.type "tuple") (rTupleOf K) := by subst e; exact call_tuple_of
theorem cK_len (e : X.K = K) : CallR X (.builtin "len") (rLenK K) := by subst e; exact call_len
theorem cK_isi (e : X.K = K) : CallR X (.builtin "isinstance") (rIsi K) := by subst e; exact call_isi
theorem cK_isiT (e : X.K = K) : CallR X (.builtin "isinstance") (rIsiT K) := by subst e; exact call_isiT
theorem cK_sortedS (e : X.K = K) : CallR X (.builtin "sorted") (rSortedS K) := by subst e; exact cr_sortedS
theorem xK_list (e : X.K = K) : IxR X (rIxL K) := by subst e; exact ix_list
theorem xK_tup (e : X.K = K) : IxR X (rIxT K) := by subst e; exact ix_tup
theorem xK_seq (e : X.K = K) : IxR X (rIx K) := by subst e; exact ix_seq
theorem oK_catA (e : X.K = K) : OpR X (binaryOp .Add) (rCatA K) := by subst e; exact op_catA
theorem oK_in (e : X.K = K) : OpR X (compareOp .In) (rIn K false) := by subst e; exact op_in_seq
theorem oK_nin (e : X.K = K) : OpR X (compareOp .NotIn) (rIn K true) := by subst e; exact op_notIn_seq
theorem oK_eqD (e : X.K = K) (hu : X.A.units + 64 < cLine) : OpR X (compareOp .Eq) (rEqD K) := by subst e; exact op_eqD hu
theorem oK_neD (e : X.K = K) (hu : X.A.units + 64 < cLine) : OpR X (compareOp .NotEq) (rNeD K) := by subst e; exact op_neD hu
theorem iK_list {tg l : Expr} {tl : TE} (e : X.K = K) (hl : PE X l tl) : PI X tg l (iList K tl) := by subst e; exact pi_list hl
theorem iK_tup {tg l : Expr} {tl : TE} (e : X.K = K) (hl : PE X l tl) : PI X tg l (iTup K tl) := by subst e; exact pi_tup hl
end
end Sl
namespace Sl
open PySem PySem.Spec PyProof.Rows L2
/-! ### comparisons of data, membership, sorted: over what reads as data -/
section
variable {X : Cx} {K : PySem.W.Frag}
def okD (d e : PyData) : Prop := PySem.W.alike d e = true ∧ d ≠ .none ∧ d.depth ≤ 32
def rLtP (K : PySem.W.Frag) : R2 := fun x y H Q => ∃ d e, Dp K H x d ∧ Dp K H y e ∧ okD d e ∧ Q (.bl (PySem.W.dataLt d e)) H
def rGeP (K : PySem.W.Frag) : R2 := fun x y H Q => ∃ d e, Dp K H x d ∧ Dp K H y e ∧ okD d e ∧ Q (.bl (!PySem.W.dataLt d e)) H
def rGtP (K : PySem.W.Frag) : R2 := fun x y H Q => ∃ d e, Dp K H x d ∧ Dp K H y e ∧ okD d e ∧ Q (.bl (PySem.W.dataLt e d)) H
def rLeP (K : PySem.W.Frag) : R2 := fun x y H Q => ∃ d e, Dp K H x d ∧ Dp K H y e ∧ okD d e ∧ Q (.bl (!PySem.W.dataLt e d)) H
theorem oP_lt (e : X.K = K) (hu : X.A.units + 64 < cLine) : OpR X (compareOp .Lt) (rLtP K) := by
  subst e
  intro pins s σ H x y v u Q I rx ry h
  obtain ⟨d, e, hd, he, ⟨h1, h2, h3⟩, q⟩ := h
  obtain ⟨as, r1⟩ := Dp.reads I d x v hd rx
  obtain ⟨bs, r2⟩ := Dp.reads I e y u he ry
  exact PySem.W.lt_data r1 r2 h1 h2 (by have := Nat.min_le_left d.depth e.depth; omega) ⟨.bl _, H, I, rfl, q⟩
theorem oP_ge (e : X.K = K) (hu : X.A.units + 64 < cLine) : OpR X (compareOp .GtE) (rGeP K) := by
  subst e
  intro pins s σ H x y v u Q I rx ry h
  obtain ⟨d, e, hd, he, ⟨h1, h2, h3⟩, q⟩ := h
  obtain ⟨as, r1⟩ := Dp.reads I d x v hd rx
  obtain ⟨bs, r2⟩ := Dp.reads I e y u he ry
  exact PySem.W.ge_data r1 r2 h1 h2 (by have := Nat.min_le_left d.depth e.depth; omega) ⟨.bl _, H, I, rfl, q⟩
theorem oP_gt (e : X.K = K) (hu : X.A.units + 64 < cLine) : OpR X (compareOp .Gt) (rGtP K) := by
  subst e
  intro pins s σ H x y v u Q I rx ry h
  obtain ⟨d, e, hd, he, ⟨h1, h2, h3⟩, q⟩ := h
  obtain ⟨as, r1⟩ := Dp.reads I d x v hd rx
  obtain ⟨bs, r2⟩ := Dp.reads I e y u he ry
  exact PySem.W.gt_data r1 r2 h1 h2 (by have := Nat.min_le_left d.depth e.depth; omega) ⟨.bl _, H, I, rfl, q⟩
theorem oP_le (e : X.K = K) (hu : X.A.units + 64 < cLine) : OpR X (compareOp .LtE) (rLeP K) := by
  subst e
  intro pins s σ H x y v u Q I rx ry h
  obtain ⟨d, e, hd, he, ⟨h1, h2, h3⟩, q⟩ := h
  obtain ⟨as, r1⟩ := Dp.reads I d x v hd rx
  obtain ⟨bs, r2⟩ := Dp.reads I e y u he ry
  exact PySem.W.le_data r1 r2 h1 h2 (by have := Nat.min_le_left d.depth e.depth; omega) ⟨.bl _, H, I, rfl, q⟩
/-- no dict within, not too deep -/
def pln (d : PyData) : Prop := d.plain = true ∧ d.depth ≤ 32
def rEqP (K : PySem.W.Frag) : R2 := fun x y H Q => ∃ d e, Dp K H x d ∧ Dp K H y e ∧ pln d ∧ pln e ∧ Q (.bl (PyData.eqv d e)) H
def rNeP (K : PySem.W.Frag) : R2 := fun x y H Q => ∃ d e, Dp K H x d ∧ Dp K H y e ∧ pln d ∧ pln e ∧ Q (.bl (!PyData.eqv d e)) H
theorem oP_eq (e : X.K = K) (hu : X.A.units + 64 < cLine) : OpR X (compareOp .Eq) (rEqP K) := by
  subst e
  intro pins s σ H x y v u Q I rx ry h
  obtain ⟨d, e, hd, he, ⟨h1, h3⟩, ⟨h2, _⟩, q⟩ := h
  obtain ⟨as, r1⟩ := Dp.reads I d x v hd rx
  obtain ⟨bs, r2⟩ := Dp.reads I e y u he ry
  exact PySem.SeqAt.eq_plain r1 r2 h1 h2 (by have := Nat.min_le_left d.depth e.depth; omega) ⟨.bl _, H, I, rfl, q⟩
theorem oP_ne (e : X.K = K) (hu : X.A.units + 64 < cLine) : OpR X (compareOp .NotEq) (rNeP K) := by
  subst e
  intro pins s σ H x y v u Q I rx ry h
  obtain ⟨d, e, hd, he, ⟨h1, h3⟩, ⟨h2, _⟩, q⟩ := h
  obtain ⟨as, r1⟩ := Dp.reads I d x v hd rx
  obtain ⟨bs, r2⟩ := Dp.reads I e y u he ry
  exact PySem.SeqAt.ne_plain r1 r2 h1 h2 (by have := Nat.min_le_left d.depth e.depth; omega) ⟨.bl _, H, I, rfl, q⟩
def rInP (K : PySem.W.Frag) (neg : Bool) : R2 := fun x y H Q => ∃ d ds, Dp K H x d ∧ (Dp K H y (.list ds) ∨ Dp K H y (.tuple ds)) ∧ pln d ∧ PyData.plainAll ds = true ∧ Q (.bl (if neg then !(ds.any fun z => PyData.eqv z d) else ds.any fun z => PyData.eqv z d)) H
theorem oP_in (e : X.K = K) (hu : X.A.units + 64 < cLine) : OpR X (compareOp .In) (rInP K false) := by
  subst e
  intro pins s σ H x y v u Q I rx ry h
  obtain ⟨d, ds, hd, he, ⟨h1, h3⟩, h2, q⟩ := h
  obtain ⟨as, r1⟩ := Dp.reads I d x v hd rx
  rcases he with he | he
  · obtain ⟨bs, r2⟩ := Dp.reads I _ y u he ry
    exact PySem.SeqAt.in_list_data r2 r1 h2 h1 (by have := Nat.min_le_right (PyData.depthAll ds) d.depth; omega) ⟨.bl _, H, I, rfl, q⟩
  · obtain ⟨bs, r2⟩ := Dp.reads I _ y u he ry
    exact PySem.SeqAt.in_tuple_data r2 r1 h2 h1 (by have := Nat.min_le_right (PyData.depthAll ds) d.depth; omega) ⟨.bl _, H, I, rfl, q⟩
theorem oP_nin (e : X.K = K) (hu : X.A.units + 64 < cLine) : OpR X (compareOp .NotIn) (rInP K true) := by
  subst e
  intro pins s σ H x y v u Q I rx ry h
  obtain ⟨d, ds, hd, he, ⟨h1, h3⟩, h2, q⟩ := h
  obtain ⟨as, r1⟩ := Dp.reads I d x v hd rx
  rcases he with he | he
  · obtain ⟨bs, r2⟩ := Dp.reads I _ y u he ry
    exact PySem.SeqAt.notIn_list_data r2 r1 h2 h1 (by have := Nat.min_le_right (PyData.depthAll ds) d.depth; omega) ⟨.bl _, H, I, rfl, q⟩
  · obtain ⟨bs, r2⟩ := Dp.reads I _ y u he ry
    exact PySem.SeqAt.notIn_tuple_data r2 r1 h2 h1 (by have := Nat.min_le_right (PyData.depthAll ds) d.depth; omega) ⟨.bl _, H, I, rfl, q⟩
/-- sorted(xs) of data -/
def rSortedP (K : PySem.W.Frag) : List V → Hp → VK → Prop := fun vs H Q => ∃ (a : Addr) (xs : List V) (ds : List PyData), vs = [.ref a] ∧ SqL K H a xs ∧ DpAll K H xs ds ∧ PySem.W.AllAlike ds ∧ PySem.W.Sortable ds ∧ (∀ d ∈ ds, d.depth ≤ 32) ∧
  ∀ ys p, DpAll K H ys (ds.mergeSort (PySem.W.dataLe false fun d => d)) → H p = none → Q (.ref p) (upd H p (.lst ys))
theorem each_of {H : Hp} : ∀ {xs : List V} {us : List Value} {ds : List PyData}, Vals xs us → DpAll K H xs ds → PySem.W.EachIs (fun u d => ∃ v, RelV v u ∧ Dp K H v d) us ds
  | _, _, _, .nil, .nil => .nil
  | _, _, _, .cons r rs, .cons h hs => .cons ⟨_, r, h⟩ (each_of rs hs)
theorem of_each {H : Hp} : ∀ {us : List Value} {ds : List PyData}, PySem.W.EachIs (fun u d => ∃ v, RelV v u ∧ Dp K H v d) us ds → ∃ xs, Vals xs us ∧ DpAll K H xs ds
  | _, _, .nil => ⟨[], .nil, .nil⟩
  | _, _, .cons ⟨v, r, h⟩ t => by
    obtain ⟨xs, rs, hs⟩ := of_each t
    exact ⟨v :: xs, .cons r rs, .cons h hs⟩
theorem each_mono {α β : Type} {R S : α → β → Prop} (k : ∀ a b, R a b → S a b) : ∀ {xs : List α} {ys : List β}, PySem.W.EachIs R xs ys → PySem.W.EachIs S xs ys
  | _, _, .nil => .nil
  | _, _, .cons h t => .cons (k _ _ h) (each_mono k t)
theorem dpAll_len {H : Hp} : ∀ {xs : List V} {ds : List PyData}, DpAll K H xs ds → xs.length = ds.length
  | _, _, .nil => rfl
  | _, _, .cons _ t => congrArg Nat.succ (dpAll_len t)
theorem cP_sorted (e : X.K = K) (hu : X.A.units + 64 < cLine) : CallR X (.builtin "sorted") (rSortedP K) := by
  subst e
  intro pins s σ H vs us Q I r h
  obtain ⟨a, xs, ds, rfl, hs, hd, ha, hk, hdep, q⟩ := h
  obtain ⟨its, rv, hl, hz⟩ := I.list hs
  rw [Vals.ref1 r]
  have e1 := each_of rv hd
  have ln : ds.length ≤ sizeLine := by rw [← dpAll_len hd]; exact hz
  refine PySem.W.sorted_data (enc := fun d => d) hl.isList e1 (each_mono (fun u d ⟨v, rv, hv⟩ => Dp.reads I d v u hv rv) e1) (by rw [List.map_id']; exact ha) (by rw [List.map_id']; exact hk) ln (fun d hm => by have := hdep d hm; omega) fun out ho h1 => ?_
  obtain ⟨ys, rv2, hy⟩ := of_each h1
  obtain ⟨ep, he'⟩ := PyProof.Rows.sortedAll_at s.heap its (List.toArray out)
  have hlen : ys.length ≤ sizeLine := by rw [rv2.length, ho]; exact ln
  exact ⟨.ref _, upd H (s.heap.objs.size + 1) (.lst ys), I.laid (t' := s.toks) (fun _ _ => PyProof.Rows.sortedAll_old) (Nat.le_succ _) ⟨hlen, out, ep, rv2, he'⟩, rfl, q ys _ hy (I.hok.fresh (Nat.le_succ _))⟩
/-- xs.extend(t), t a tuple -/
def rExtendT (K : PySem.W.Frag) : V → List V → Hp → VK → Prop := fun x vs H Q => ∃ l b xs zs, x = .ref l ∧ vs = [.ref b] ∧ H l = some (.lst xs) ∧ SqT K H b zs ∧ xs.length + zs.length ≤ sizeLine ∧ Q .non (upd H l (.lst (xs ++ zs)))
end
end Sl
namespace Sl
open PySem PySem.Spec PyProof.Rows L2
theorem ext_tup (l b : Addr) (zs ws : Array Value) (n m : Nat) (dd : Option Addr) (sl : Array (Option Value)) (hs0 : ¬(!zs.isEmpty && Builtin.List.listTooLong (zs.size + ws.size)) = true) (hs1 : zs.size ≤ sizeLine) (hs2 : zs.size + ws.size ≤ sizeLine + 1) :
    Meets (Builtin.«list.extend» ⟨[.ref l, .ref b], []⟩) (fun _ R s => s.heap.get? l = some { cls := .type "list", dict := none, data := .seq zs n, slots := #[] } ∧ s.heap.get? b = some { cls := .type "tuple", dict := dd, data := .seq ws m, slots := sl } ∧
      R (.ok (.ret Value.none)) { s with heap := s.heap.update l (Obj.mapSeq fun x => x ++ ws) }) :=
  .of_wp fun prog w A R s h => by
    obtain ⟨hp, g, d, tk, os⟩ := s
    obtain ⟨hl, hb, h⟩ := h
    have f1 := AutoSeq1.idx_int; have f2 := AutoSeq1.sub_tuple_tuple; have f3 := AutoSeq1.sub_list_list
    have f4 := AutoSeq1.sub_tuple_list; have f5 := AutoSeq1.sub_list_tuple
    have hz' : (zs ++ ws).size ≤ sizeLine + 1 := by rw [Array.size_append]; exact hs2
    wp_walk using (wpAny_updateSeq hl rfl (hz := hs1) (_hz' := hz')), AutoSeq1.wpAny_loadPart' hl, AutoSeq1.wpAny_loadPart' hb
    exact ⟨_, rfl, h⟩
section
variable {X : Cx} {K : PySem.W.Frag}
theorem mt_extendT (e : X.K = K) : MtM X "list.extend" (rExtendT K) := by
  subst e
  intro pins s σ H x vs v us Q I rx rv h
  obtain ⟨l, b, xs, zs, rfl, rfl, hH, hB, hz, q⟩ := h
  cases rx
  obtain ⟨u, rfl, ru⟩ := rv.one
  cases ru
  obtain ⟨z, its, n, r, hl, e⟩ := I.lstM hH
  obtain ⟨its2, r2, ⟨o2, e2, c2, n2, d2⟩, hz2⟩ := I.tuple hB
  obtain ⟨oc, od, dt, sl⟩ := o2
  simp only at c2 d2
  subst c2 d2
  have l1 := r.length
  have l2 := r2.length
  have hsz : its.toArray.size + its2.toArray.size ≤ sizeLine := by rw [List.size_toArray, List.size_toArray]; omega
  have hlong : ¬ (!its.toArray.isEmpty && Builtin.List.listTooLong (its.toArray.size + its2.toArray.size)) = true := by
    rw [notLongL hsz, Bool.and_false]
    exact Bool.false_ne_true
  refine call_meets F.slot_list_extend ⟨_, e, rfl⟩ F.entry_list_extend (F.args_list_extend_2 _ _) (ext_tup l b its.toArray its2.toArray n n2 od sl hlong (by rw [List.size_toArray]; omega) (by omega)) ⟨e, e2, ?_⟩
  refine ⟨.non, _, I.lset (its' := its ++ its2) hH e (by simp) (r.append r2) ?_, rfl, q⟩
  rw [List.length_append]
  omega
end
end Sl
namespace Sl
open PySem PySem.Spec PyProof.Rows L2
theorem sortsAt_short {prog : Program} {w : World} {A : Around} {s : Shared} {vs : List Value} {ds : List PyData} (e : PySem.W.EachIs (fun v d => ∃ as, Reads s.heap v d as) vs ds) (hal : PySem.W.AllAlike ds) (h1 : ds.length ≤ 1) (hn : ∀ d ∈ ds, d ≠ .none) (hu : ∀ d, d ∈ ds → A.units + d.depth < cLine) : PySem.W.SortsAt prog w A s (PySem.W.dataKind s.heap ds) vs := by
  refine ⟨fun v hv => ?_, general', fun E x y a b Q ha hb hq => ?_, fun h2 => ?_⟩
  · obtain ⟨d, hd, as, r⟩ := e.left v hv
    exact ⟨_, PySem.W.dataKind_some hal hd r⟩
  · obtain ⟨d, as, hd, ra, rfl⟩ := PySem.W.dataKind_inv ha
    obtain ⟨d', as', hd', rb, rfl⟩ := PySem.W.dataKind_inv hb
    exact PySem.W.oneLt_alike (f := false) (fun z => Bool.noConfusion z) ra rb (hal d hd d' hd') (hn d hd) (Nat.lt_of_le_of_lt (Nat.add_le_add_left (Nat.min_le_left _ _) _) (hu d hd)) hq
  · have := e.length
    omega
section
variable {X : Cx} {K : PySem.W.Frag}
def rSortedQ (K : PySem.W.Frag) : List V → Hp → VK → Prop := fun vs H Q => ∃ (a : Addr) (xs : List V) (ds : List PyData), vs = [.ref a] ∧ SqL K H a xs ∧ DpAll K H xs ds ∧ PySem.W.AllAlike ds ∧ (PySem.W.Sortable ds ∨ (ds.length ≤ 1 ∧ ∀ d ∈ ds, d ≠ .none)) ∧ (∀ d ∈ ds, d.depth ≤ 32) ∧
  ∀ ys p, DpAll K H ys (ds.mergeSort (PySem.W.dataLe false fun d => d)) → H p = none → Q (.ref p) (upd H p (.lst ys))
theorem cQ_sorted (e : X.K = K) (hu : X.A.units + 64 < cLine) : CallR X (.builtin "sorted") (rSortedQ K) := by
  subst e
  intro pins s σ H vs us Q I r h
  obtain ⟨a, xs, ds, rfl, hs, hd, ha, hk, hdep, q⟩ := h
  obtain ⟨its, rv, hl, hz⟩ := I.list hs
  rw [Vals.ref1 r]
  have e1 := each_of rv hd
  have ln : ds.length ≤ sizeLine := by rw [← dpAll_len hd]; exact hz
  have fin : ∀ out : List Value, out.length = ds.length → PySem.W.EachIs (fun u d => ∃ v, RelV v u ∧ Dp X.K H v d) out (ds.mergeSort (PySem.W.dataLe false fun d => d)) → ∃ v H', Inv X pins σ H' { s with heap := PyProof.Rows.sortedAll s.heap its (List.toArray out) } ∧ RelV v (.ref (s.heap.objs.size + 1)) ∧ Q v H' := fun out ho h1 => by
    obtain ⟨ys, rv2, hy⟩ := of_each h1
    obtain ⟨ep, he'⟩ := PyProof.Rows.sortedAll_at s.heap its (List.toArray out)
    have hlen : ys.length ≤ sizeLine := by rw [rv2.length, ho]; exact ln
    exact ⟨.ref _, upd H (s.heap.objs.size + 1) (.lst ys), I.laid (t' := s.toks) (fun _ _ => PyProof.Rows.sortedAll_old) (Nat.le_succ _) ⟨hlen, out, ep, rv2, he'⟩, rfl, q ys _ hy (I.hok.fresh (Nat.le_succ _))⟩
  rcases hk with hk | ⟨hk, hn⟩
  · exact PySem.W.sorted_data (enc := fun d => d) hl.isList e1 (each_mono (fun u d ⟨v, rv, hv⟩ => Dp.reads I d v u hv rv) e1) (by rw [List.map_id']; exact ha) (by rw [List.map_id']; exact hk) ln (fun d hm => by have := hdep d hm; omega) fin
  · have er' : PySem.W.EachIs (fun v b => ∃ as, Reads (PySem.W.sortingHeap (PySem.W.copyHeap s.heap its) (s.heap.objs.size + 1) its) v b as) its ds := each_mono (fun v b ⟨as, r⟩ => ⟨as, PyProof.Rows.Reads.keeps (fun _ _ => PySem.W.sorting_copy_old) r⟩) (each_mono (fun u d ⟨v, rv, hv⟩ => Dp.reads I d v u hv rv) e1)
    refine PySem.W.sorted_vals hl.isList (sortsAt_short (s := { s with heap := PySem.W.sortingHeap (PySem.W.copyHeap s.heap its) (s.heap.objs.size + 1) its }) er' ha hk hn (fun d hm => by have := hdep d hm; show _ + 2 + _ < _; omega)) (by rw [e1.length]; exact ln)
      (fin _ (by rw [PySem.W.sortVals_length false rfl]; exact e1.length) ?_)
    have := PySem.W.sortVals_data (h' := PySem.W.sortingHeap (PySem.W.copyHeap s.heap its) (s.heap.objs.size + 1) its) (enc := fun d : PyData => d) false e1 er' (by rw [List.map_id']; exact ha)
    rw [List.map_id'] at this
    exact this
end
/-- a, b = .. in a comprehension's block -/
theorem gK_tup {X : Cx} {K : PySem.W.Frag} (n : Nat) {es : List Expr} {k : Nat} {pos : Pos} {t : TGs} (e : X.K = K) (hc : X.calm = true) (h : PGs X es t)
    (hn : (assignEach es X.env).length = n := by rfl) (hst : (assignEach es X.env).findIdx? (·.1) = none := by rfl) : PG X (.Tuple es k pos) (gTup K n t) := e ▸ pg_tup hc h hn hst
end Sl
namespace Sl
open PySem PySem.Spec PyProof.Rows L2

/-! Own classes: their methods behind len, in, operators, subscripts. E tells, by the caller's slots, what is wanted of an error -/
section
variable {X : Cx} {CX : CXT} {k : Nat} {f C : Addr} {fd : FuncData} {ps : List Str} {sp : Sp} {E : L2.St → XK} {dvs : List V} {ds : List Value}

/-- one of these defs run under an Around of the same room -/
theorem own_run {A' : Around} {E' : Value → Shared → Prop} {pins : List (Addr × Obj)} {σ : L2.St} {H : Hp} {s : Shared} {Q : VK} {e1 : XK} {us : List Value} {vs : List V} (F : FnOk X.prog X.w X.K X.mg X.base CX k f fd ps sp) (hr : Room k A')
    (e0 : Env0 X.prog X.w X.K X.mg X.base A' X.stack s H) (hb : Binds X.K fd ps ds) (hd : Vals dvs ds) (hx : ∀ e s', CX X.stack H s e1 e s' → E' e s') (I : Inv X pins σ H s) (r : Vals vs us) (h : sp (vs ++ dvs) H Q e1) :
    wpAny (model X.prog X.w) A' (call (.ref f) us) (EP X pins σ Q) E' s := by
  have r2 : Vals (vs ++ dvs) (us ++ ds) := r.append hd
  have hl : (us ++ ds).length = ps.length := by rw [← r2.length]; exact F.len _ _ _ _ h
  refine wpAny_call (codeAny_mono (F.run A' X.stack s H ⟨us, []⟩ (us ++ ds) (vs ++ dvs) Q e1 hr e0 (hb s us I.kIn hl) r2 h) fun r s' hq => ?_)
  cases r with
  | error e => exact hx e s' hq
  | ok fl =>
    cases fl with
    | ret u => exact I.after hq
    | _ => exact False.elim hq
theorem pas0 {E0' : XK} (h : Passes CX X E0') : ∀ σ, PassesAt CX X σ ((fun _ => E0') σ) := fun σ pins H s e s' I c => h pins σ H s e s' I c

/-- len(o) -/
def rLenO (C : Addr) (sp : Sp) (E : XK) : List V → Hp → VK → Prop := fun xs H Q => ∃ a dx fs, xs = [.ref a] ∧ H a = some (.ins C dx fs) ∧ sp [.ref a] H (fun v H' => ∃ n : Nat, v = .int (n : Int) ∧ n ≤ 1000000 ∧ Q (.int (n : Int)) H') E
theorem call_lenO {E : XK} (M : Meth X.K C "__len__" f) (F : FnOk X.prog X.w X.K X.mg X.base CX k f fd ps sp) (hr : Room (k + 1) X.A) (hb : Binds X.K fd ps []) (hx : Passes CX X E) : CallR X (.builtin "len") (rLenO C sp E) := by
  intro pins s σ H xs us Q I r h
  obtain ⟨a, dx, fs, rfl, ea, q⟩ := h
  rw [Vals.ref1 r]
  obtain ⟨mA, O, _, _, _, _⟩ := ins_get I.hok ea
  obtain ⟨od, J, _⟩ := O.look
  obtain ⟨m, Fm⟩ := I.fr
  refine PySem.W.len_K Fm I.ok.mod.kin J M.at_ M.fn (wpAny_mono (own_run (dvs := []) F hr.in1 I.env0.in1 hb .nil (fun e s' c => hx pins σ H s e s' I c) I (us := [.ref a]) (vs := [.ref a]) (.cons rfl .nil) q) (fun v s' hv => ?_) fun _ _ z => z)
  obtain ⟨x, H', I2, rx, n, rfl, hn, q2⟩ := hv
  obtain ⟨t, rfl⟩ := rx
  exact ⟨⟨by omega, by omega⟩, .int (n : Int), H', I2.tok _, ⟨_, rfl⟩, q2⟩

/-- y in o, y not in o -/
def rInO (b : Bool) (C : Addr) (sp : Sp) (E : XK) : R2 := fun y x H Q => ∃ a dx fs, x = .ref a ∧ H a = some (.ins C dx fs) ∧ sp [.ref a, y] H (fun v H' => ∃ c, v = .bl c ∧ Q (.bl (b ^^ c)) H') E
theorem op_inO {E : XK} (M : Meth X.K C "__contains__" f) (F : FnOk X.prog X.w X.K X.mg X.base CX k f fd ps sp) (hr : Room k X.A) (hb : Binds X.K fd ps []) (hx : Passes CX X E) : OpR X (compareOp .In) (rInO false C sp E) := by
  intro pins s σ H y x v u Q I ry rx h
  obtain ⟨a, dx, fs, rfl, ea, q⟩ := h
  cases rx
  obtain ⟨mA, O, _, _, _, _⟩ := ins_get I.hok ea
  obtain ⟨od, J, _⟩ := O.look
  obtain ⟨m, Fm⟩ := I.fr
  refine PySem.W.in_K Fm I.ok.mod.kin J M.at_ M.fn (wpAny_mono (own_run (dvs := []) F hr I.env0 hb .nil (fun e s' c => hx pins σ H s e s' I c) I (us := [.ref a, v]) (vs := [.ref a, y]) (.cons rfl (.cons ry .nil)) q) (fun w s' hv => ?_) fun _ _ z => z)
  obtain ⟨z, H', I2, rz, c, rfl, q2⟩ := hv
  obtain rfl : w = .bool c := rz
  exact wpAny_pure ⟨.bl (false ^^ c), H', I2, by cases c <;> rfl, q2⟩
theorem op_ninO {E : XK} (M : Meth X.K C "__contains__" f) (F : FnOk X.prog X.w X.K X.mg X.base CX k f fd ps sp) (hr : Room k X.A) (hb : Binds X.K fd ps []) (hx : Passes CX X E) : OpR X (compareOp .NotIn) (rInO true C sp E) := by
  intro pins s σ H y x v u Q I ry rx h
  obtain ⟨a, dx, fs, rfl, ea, q⟩ := h
  cases rx
  obtain ⟨mA, O, _, _, _, _⟩ := ins_get I.hok ea
  obtain ⟨od, J, _⟩ := O.look
  obtain ⟨m, Fm⟩ := I.fr
  refine PySem.W.notIn_K Fm I.ok.mod.kin J M.at_ M.fn (wpAny_mono (own_run (dvs := []) F hr I.env0 hb .nil (fun e s' c => hx pins σ H s e s' I c) I (us := [.ref a, v]) (vs := [.ref a, y]) (.cons rfl (.cons ry .nil)) q) (fun w s' hv => ?_) fun _ _ z => z)
  obtain ⟨z, H', I2, rz, c, rfl, q2⟩ := hv
  obtain rfl : w = .bool c := rz
  exact wpAny_pure ⟨.bl (true ^^ c), H', I2, by cases c <;> rfl, q2⟩

/-! o - y, y a text or an int; o + p of one class -/
/-- what the text must say of the class beside a built-in type -/
structure BinT (K : PySem.W.Frag) (C : Addr) (op : Operator) (T : String) : Prop where
  first : PySem.W.selfFirst K C = true
  r : ∃ rc, PySem.W.findIn K (.ref C) (PySem.dunderR op.info.2) = some rc ∧ (rc = none ∨ ∃ g : Addr, rc = some (.ref g))
  h1 : ∃ fo, PySem.W.findIn K (.type T) (PySem.dunder op.info.2) = some fo
  h2 : ∃ ro, PySem.W.findIn K (.type T) (PySem.dunderR op.info.2) = some ro
  sub : PySem.W.subIn K (.type T) (.ref C) = some false
/-- a value that is no NotImplemented -/
theorem cmp_back {Q : VK} {pins : List (Addr × Obj)} {σ : L2.St} {v : Value} {s' : Shared} (h : EP X pins σ Q v s') : PySem.W.CmpBack (EP X pins σ Q) v s' := by
  obtain ⟨x, H', I2, rx, q⟩ := h
  cases v with
  | notImplemented => cases x <;> (simp [L2.RelV] at rx; try (first | cases rx | skip))
  | _ => exact ⟨x, H', I2, rx, q⟩
def tOpO (C : Addr) (sp : Sp) (E : L2.St → XK) (ta tb : TE) : TE := fun σ H Q => ta σ H fun x H1 => tb σ H1 fun y H2 => ∃ a dx fs, x = .ref a ∧ H2 a = some (.ins C dx fs) ∧ sp [.ref a, y] H2 Q (E σ)
def TyB (T : String) : V → Prop
  | .str _ => T = "str"
  | .int _ => T = "int"
  | _ => False
def tTyB (T : String) (tb : TE) : TE := fun σ H Q => tb σ H fun y H1 => TyB T y ∧ Q y H1
theorem pe_opO {op : Operator} {T : String} {a b : Expr} {ta tb : TE} {pos : Pos} (B : BinT X.K C op T) (M : Meth X.K C (PySem.dunder op.info.2) f) (F : FnOk X.prog X.w X.K X.mg X.base CX k f fd ps sp) (hr : Room k X.A) (hb : Binds X.K fd ps [])
    (hx : ∀ σ, PassesAt CX X σ (E σ)) (ha : PE X a ta) (hb2 : PE X b tb) : PE X (.BinOp a op b pos) (tOpO C sp E ta (tTyB T tb)) := by
  refine ⟨fun pins s σ H Q I h => ?_⟩
  refine wpAny_BinOp (thn (ha.run pins s σ H _ I h) fun v s1 ⟨x, H1, I1, rx, q1⟩ => thn (hb2.run pins s1 σ H1 _ I1 q1) fun u s2 ⟨y, H2, I2, ry, ty, q2⟩ => ?_)
  obtain ⟨a, dx, fs, rfl, ea, q⟩ := q2
  cases rx
  obtain ⟨mA, O, _, _, _, _⟩ := ins_get I2.hok ea
  obtain ⟨od, J, _⟩ := O.look
  obtain ⟨m, Fm⟩ := I2.fr
  obtain ⟨rc, hr1, hr2⟩ := B.r
  obtain ⟨fo, h1⟩ := B.h1
  obtain ⟨ro, h2⟩ := B.h2
  have hT : typeOf u = pure (.type T) := by
    cases y with
    | str z => obtain ⟨t, rfl⟩ := ry; cases ty; rfl
    | int i => obtain ⟨t, rfl⟩ := ry; cases ty; rfl
    | _ => exact False.elim ty
  refine PySem.W.ksp_binT Fm I2.ok.mod.kin J hT B.first M.at_ M.fn hr1 hr2 h1 h2 B.sub (wpAny_mono (own_run (dvs := []) F hr I2.env0 hb .nil (fun e s' c => hx σ pins H2 s2 e s' I2 c) I2 (us := [.ref a, u]) (vs := [.ref a, y]) (.cons rfl (.cons ry .nil)) q) (fun w s' hv => cmp_back hv) fun _ _ z => z)
/-- o + p, both of the class -/
def tOpOO (C : Addr) (sp : Sp) (E : L2.St → XK) (ta tb : TE) : TE := fun σ H Q => ta σ H fun x H1 => tb σ H1 fun y H2 => ∃ a dx fs b dy gs, x = .ref a ∧ y = .ref b ∧ H2 a = some (.ins C dx fs) ∧ H2 b = some (.ins C dy gs) ∧ sp [.ref a, .ref b] H2 Q (E σ)
theorem pe_opOO {op : Operator} {a b : Expr} {ta tb : TE} {pos : Pos} (hc : PySem.W.selfFirst X.K C = true) (M : Meth X.K C (PySem.dunder op.info.2) f) (F : FnOk X.prog X.w X.K X.mg X.base CX k f fd ps sp) (hr : Room k X.A) (hb : Binds X.K fd ps [])
    (hx : ∀ σ, PassesAt CX X σ (E σ)) (ha : PE X a ta) (hb2 : PE X b tb) : PE X (.BinOp a op b pos) (tOpOO C sp E ta tb) := by
  refine ⟨fun pins s σ H Q I h => ?_⟩
  refine wpAny_BinOp (thn (ha.run pins s σ H _ I h) fun v s1 ⟨x, H1, I1, rx, q1⟩ => thn (hb2.run pins s1 σ H1 _ I1 q1) fun u s2 ⟨y, H2, I2, ry, q2⟩ => ?_)
  obtain ⟨a, dx, fs, b, dy, gs, rfl, rfl, ea, eb, q⟩ := q2
  cases rx
  cases ry
  obtain ⟨mA, O, _, _, _, _⟩ := ins_get I2.hok ea
  obtain ⟨od, J, _⟩ := O.look
  obtain ⟨mB, O2, _, _, _, _⟩ := ins_get I2.hok eb
  obtain ⟨od2, J2, _⟩ := O2.look
  obtain ⟨m, Fm⟩ := I2.fr
  refine PySem.W.binop_K Fm I2.ok.mod.kin J J2.type hc M.at_ M.fn (wpAny_mono (own_run (dvs := []) F hr I2.env0 hb .nil (fun e s' c => hx σ pins H2 s2 e s' I2 c) I2 (us := [.ref a, .ref b]) (vs := [.ref a, .ref b]) (.cons rfl (.cons rfl .nil)) q) (fun w s' hv => cmp_back hv) fun _ _ z => z)
/-- -o -/
def rNegO (C : Addr) (sp : Sp) (E : XK) : V → Hp → VK → Prop := fun x H Q => ∃ a dx fs, x = .ref a ∧ H a = some (.ins C dx fs) ∧ sp [.ref a] H Q E
theorem un_negO {E : XK} (M : Meth X.K C "__neg__" f) (F : FnOk X.prog X.w X.K X.mg X.base CX k f fd ps sp) (hr : Room k X.A) (hb : Binds X.K fd ps []) (hx : Passes CX X E) : UnR X (unaryOp .USub) (rNegO C sp E) := by
  intro pins s σ H x v Q I rx h
  obtain ⟨a, dx, fs, rfl, ea, q⟩ := h
  cases rx
  obtain ⟨mA, O, _, _, _, _⟩ := ins_get I.hok ea
  obtain ⟨od, J, _⟩ := O.look
  obtain ⟨m, Fm⟩ := I.fr
  exact PySem.W.ksp_neg Fm I.ok.mod.kin J M.at_ M.fn (own_run (dvs := []) F hr I.env0 hb .nil (fun e s' c => hx pins σ H s e s' I c) I (us := [.ref a]) (vs := [.ref a]) (.cons rfl .nil) q)

/-- o.m(e, ..), what is raised wished for at the caller's slots -/
def tMethO (C : Addr) (m : Str) (sp : Sp) (dvs : List V) (E : L2.St → XK) (ta : TE) (t : TA) : TE := fun σ H Q => ta σ H fun x H1 => ∃ a dx fs, x = .ref a ∧ H1 a = some (.ins C dx fs) ∧ fs.lookup m = none ∧ t σ H1 fun vs H2 => sp ((x :: vs) ++ dvs) H2 Q (E σ)
theorem pe_methO {pl : Sem Bool} {o e : Expr} {es : List Expr} {ta : TE} {t : TA} {m : Str} {pos apos : Pos} (he : PE X o ta) (c : Cls X.K C) (hm : Meth X.K C m f) (F : FnOk X.prog X.w X.K X.mg X.base CX k f fd ps sp) (hr : Room k X.A) (hb : Binds X.K fd ps ds) (hd : Vals dvs ds) (hx : ∀ σ, PassesAt CX X σ (E σ)) (ha : PA X (e :: es) t)
    (hst : starEach (e :: es) X.env = (false, eval e X.env) :: starEach es X.env := by rfl) (hpl : (backTo pos (starEach es X.env)).any (·.1) = false := by rfl)
    (ht : eval (.Call (.Attribute o m apos) (e :: es) [] pos) X.env = (do
      let ov ← eval o X.env
      standAt apos.atName
      let (f, first) ← holding [ov] (getMethod ov m pl)
      callWith pos f first (backTo pos (starEach (e :: es) X.env)) (backToKw pos (keywordEach [] X.env))) := by rfl) :
    PE X (.Call (.Attribute o m apos) (e :: es) [] pos) (tMethO C m sp dvs E ta t) := by
  refine ⟨fun pins s σ H Q I h => ?_⟩
  refine PySem.W.methodCall_KW (pl := pl) (thn (he.run pins s σ H _ I h) fun u s1 ⟨x, H1, I1, rx, a, dx, fs, ex, ea, l, q⟩ => ?_) ht
  subst ex
  obtain rfl : u = Value.ref a := rx
  refine getmeth_ok I1 ea c hm l ?_
  refine PySem.W.callWith_K (first := [.ref a]) (h₀ := X.base) I.ok.mod.kin hm.kp (thn (ha.run pos pins s1 σ H1 _ I1 q) fun us s2 ⟨vs, H2, I2, r, q2⟩ => ⟨I2.kIn, ?_⟩) hst hpl
  exact own_run (us := .ref a :: us) (vs := .ref a :: vs) F hr I2.env0 hb hd (fun e s' c => hx σ pins H2 s2 e s' I2 c) I2 (.cons rfl r) q2

/-- C(e, ..), what is raised wished for at the caller's slots -/
def tMakeO (C : Addr) (sp : Sp) (dvs : List V) (E : L2.St → XK) (t : TA) : TE := fun σ H Q => t σ H fun vs H1 => ∀ x dx, H1 x = none → H1 dx = none → dx ≠ x →
  sp ((.ref x :: vs) ++ dvs) (upd (upd H1 dx (.own x)) x (.ins C dx [])) (fun v H2 => v = .non ∧ Q (.ref x) H2) (E σ)
theorem run_makeO {pins : List (Addr × Obj)} {σ : L2.St} {H : Hp} {s : Shared} {Q : VK} {us : List Value} {vs : List V} (M : Mk X.K C f) (F : FnOk X.prog X.w X.K X.mg X.base CX k f fd ps sp) (hr : Room (k + 1) X.A) (hb : Binds X.K fd ps ds) (hd : Vals dvs ds)
    (hx : PassesAt CX X σ (E σ)) (I : Inv X pins σ H s) (r : Vals vs us)
    (h : ∀ x dx, H x = none → H dx = none → dx ≠ x → sp ((.ref x :: vs) ++ dvs) (upd (upd H dx (.own x)) x (.ins C dx [])) (fun v H2 => v = .non ∧ Q (.ref x) H2) (E σ)) :
    wpAny (model X.prog X.w) X.A (call (.ref C) us) (EP X pins σ Q) X.xe s := by
  have hq := h (s.heap.objs.size + 1) s.heap.objs.size (I.hok.fresh (Nat.le_succ _)) (I.hok.fresh (Nat.le_refl _)) (Nat.ne_of_lt (Nat.lt_succ_self _))
  have I2 := Inv.made (C := C) I
  have hl : ((Value.ref (s.heap.objs.size + 1) :: us) ++ ds).length = ps.length := by
    have e := F.len _ _ _ _ hq
    rw [← e, List.length_append, List.length_append, List.length_cons, List.length_cons, r.length, hd.length]
  refine wpAny_call (make_map (f := f) I.kIn M.makes M.init (beq_iff_eq.mp M.fn) (codeAny_mono (F.run _ X.stack _ _ ⟨Value.ref (s.heap.objs.size + 1) :: us, []⟩ ((Value.ref (s.heap.objs.size + 1) :: us) ++ ds) _ _ (E σ) (hr.make C us [])
    (I2.env0.make C us []) (hb _ (Value.ref (s.heap.objs.size + 1) :: us) I2.kIn hl) ((show Vals (V.ref (s.heap.objs.size + 1) :: vs) (Value.ref (s.heap.objs.size + 1) :: us) from .cons rfl r).append hd) hq) fun r s' hq' => ?_))
  cases r with
  | error e => exact hx pins _ _ e s' I2 hq'
  | ok fl =>
    cases fl with
    | ret u =>
      obtain ⟨v, H', I3, rv, ev, q3⟩ := I2.after hq'
      subst ev
      exact ⟨rv, ⟨V.ref (s.heap.objs.size + 1), H', I3, rfl, q3⟩⟩
    | _ => exact False.elim hq'
theorem pe_makeO {x : Str} {e : Expr} {es : List Expr} {t : TA} {p pos : Pos} (M : Mk X.K C f) (F : FnOk X.prog X.w X.K X.mg X.base CX k f fd ps sp) (hr : Room (k + 1) X.A) (hg : Gl X x) (hm : X.mg x = some (.ref C)) (hb : Binds X.K fd ps ds) (hd : Vals dvs ds) (hx : ∀ σ, PassesAt CX X σ (E σ))
    (ha : PA X (e :: es) t) (hdb : (x == ("__debug__" : Str)) = false := by decide) (he : starEach (e :: es) X.env = (false, eval e X.env) :: starEach es X.env := by rfl) (hpl : (backTo pos (starEach es X.env)).any (·.1) = false := by rfl) :
    PE X (.Call (.Name x p) (e :: es) [] pos) (tMakeO C sp dvs E t) := by
  refine ⟨fun pins s σ H Q I h => ?_⟩
  refine wpAny_Call_Name_kw (ld_glob I hg hm ?_ hdb)
  refine PySem.W.callWith_K (h₀ := X.base) I.ok.mod.kin M.kp (thn (ha.run pos pins s σ H _ I h) fun us s1 ⟨vs, H1, I1, r, q⟩ => ⟨I1.kIn, ?_⟩) he hpl
  exact run_makeO M F hr hb hd (hx σ) I1 r q
end

/-! a class held by a local name, made -/
def tMakeL (i : Nat) (C : Addr) (sp : Sp) (dvs : List V) (E : L2.St → XK) (t : TA) : TE := fun σ H Q => σ[i]? = some (some (.ref C)) ∧ tMakeO C sp dvs E t σ H Q
theorem pe_makeL {X : Cx} {CX : CXT} {k i : Nat} {f C : Addr} {fd : FuncData} {ps : List Str} {sp : Sp} {E : L2.St → XK} {dvs : List V} {ds : List Value} {x : Str} {e : Expr} {es : List Expr} {t : TA} {p pos : Pos} (M : Mk X.K C f) (F : FnOk X.prog X.w X.K X.mg X.base CX k f fd ps sp) (hr : Room (k + 1) X.A)
    (hN : X.N[i]? = some x) (hv : Vis X.env.scope x) (hb : Binds X.K fd ps ds) (hd : Vals dvs ds) (hx : ∀ σ, PassesAt CX X σ (E σ))
    (ha : PA X (e :: es) t) (hdb : (x == ("__debug__" : Str)) = false := by decide) (hcd : (x == ("__classdict__" : Str)) = false := by decide) (he : starEach (e :: es) X.env = (false, eval e X.env) :: starEach es X.env := by rfl) (hpl : (backTo pos (starEach es X.env)).any (·.1) = false := by rfl) :
    PE X (.Call (.Name x p) (e :: es) [] pos) (tMakeL i C sp dvs E t) := by
  refine ⟨fun pins s σ H Q I h => ?_⟩
  obtain ⟨hs, ht⟩ := h
  refine wpAny_Call_Name_kw (thn ((pe_var (pos := p) hN hv hdb hcd).run pins s σ H (fun v H1 => v = .ref C ∧ H1 = H) I ⟨.ref C, hs, rfl, rfl⟩) fun u s1 ⟨v, H1, I1, r1, q1⟩ => ?_)
  obtain ⟨rfl, rfl⟩ := q1
  cases r1
  refine PySem.W.callWith_K (h₀ := X.base) I.ok.mod.kin M.kp (thn (ha.run pos pins s1 σ _ _ I1 ht) fun us s2 ⟨vs, H2, I2, r, q⟩ => ⟨I2.kIn, ?_⟩) he hpl
  exact run_makeO M F hr hb hd (hx σ) I2 r q

/-! iteration over an object whose __iter__ gives an iterator over a tuple -/
def tiObj (t : Addr) (i : Nat) : Obj := { cls := .type "tuple_iterator", data := .fields #[.ref t, .int (i : Int) 0] }
def TiO (t it : Addr) (i : Nat) : HO := .ext fun h => h.get? it = some (tiObj t i)
theorem tiO_ok {P : Program} {w : World} {H : Hp} {h : Heap} {t it : Addr} {i : Nat} (e : h.get? it = some (tiObj t i)) : ObjOk P w H h it (TiO t it i) := ⟨e, ⟨_, e⟩, fun h1 h2 q k => k _ q⟩
/-- iter(t), t a tuple -/
def rIterT (K : PySem.W.Frag) (n : Nat) : List V → Hp → VK → Prop := fun xs H Q => ∃ (t : Addr) (zs : List V), xs = [.ref t] ∧ SqT K H t zs ∧ ∀ it, H it = none → n ≤ it → Q (.ref it) (upd H it (TiO t it 0))
theorem call_iterT {X : Cx} : CallR X (.builtin "iter") (rIterT X.K X.s_0.heap.objs.size) := by
  intro pins s σ H xs us Q I r h
  obtain ⟨l, zs, rfl, hq, q⟩ := h
  obtain rfl := Vals.ref1 r
  obtain ⟨its, rv, pl, hz⟩ := I.tuple hq
  refine Calls.call_function_entry (by decide +kernel) (by decide +kernel) PySem.W.kdk_entry_iter (PySem.W.kdk_args_iter _) ?_
  unfold Builtin.«iter»
  refine wpAny_bind (m := someArgs "iter" 1 2 _) (wpAny_of_eq (a := [Value.ref l]) (by first | rfl | kernel_rfl!) ?_)
  show wpAny _ _ (pyIter (.ref l) >>= _) _ _ _
  refine wpAny_bind (wpAny_pyIter_tuple (show s.heap.IsTuple l its.toArray from pl) (wpAny_pure ⟨_, rfl, ?_⟩))
  exact ⟨.ref s.heap.objs.size, _, I.laid (t' := s.toks) (fun b u e => Heap.get?_push_of_some _ e) (Nat.le_refl _) (tiO_ok (Heap.get?_push_size _ rfl)), rfl, q _ (I.hok.fresh (Nat.le_refl _)) I.sz⟩

/-- a def's promise that may name the heap's size at its entry -/
structure FnSz (P : Program) (w : World) (K : PySem.W.Frag) (mg : Str → Option Value) (base : Heap) (CX : CXT) (k : Nat) (f : Addr) (fd : FuncData) (ps : List Str) (sp : Nat → Sp) : Prop where
  len : ∀ n vs H Q E, sp n vs H Q E → vs.length = ps.length
  run : ∀ (A : Around) (outer : List Env) (s : Shared) (H : Hp) (args : Args) (us : List Value) (vs : List V) (Q : VK) (E : XK), Room k A → Env0 P w K mg base A outer s H → BindsTo s fd args (ps.zip us) → Vals vs us → sp s.heap.objs.size vs H Q E →
    codeAny (model P w) A (.call (.ref f) args) (CR CX outer P w H s Q E) s
theorem fn_sz {CX : CXT} {P : Program} {w : World} {K : PySem.W.Frag} {mg : Str → Option Value} {base : Heap} {k : Nat} {f : Addr} {name qual : Str} {params : Arguments} {body : List Stmt} {scope : Scope} {dV kV doc pm cdv ct oc : Value} {an od : Option Addr}
    {osl : Array (Option Value)} {N ps : List Str} {sp : Nat → Sp} (lk : K.lookup f = some ⟨oc, od, .func (PySem.W.fnOf name qual params body scope dV kV doc pm an cdv ct), osl⟩) (hcd : PySem.W.codeIn K cdv qual = true) (S : FnScope N ps scope)
    (len : ∀ n vs H Q E, sp n vs H Q E → vs.length = ps.length)
    (hbody : ∀ (A : Around) (outer : List Env) (s : Shared) (H : Hp) (vs : List V) (Q : VK) (E : XK), Room k (A.deeper (envOfC qual scope s.heap.objs.size f cdv)) → sp s.heap.objs.size vs H Q E →
      ∃ t, PSs (cxOf CX P w K mg base N qual scope f cdv A outer s H E) body t ∧ t { nx := fun _ H' => Q .non H', rt := Q } (L2.start N vs) H) :
    FnSz P w K mg base CX (k + 1) f (PySem.W.fnOf name qual params body scope dV kV doc pm an cdv ct) ps sp := by
  refine ⟨len, fun A outer s H args us vs Q E hr e0 hb r hsp => ?_⟩
  have KX : K.In s.heap := e0.mod.kin.keeps fun b o e => (e0.bs b o e).1
  have lim : s.heap.NoLimit := e0.mod.nolimit.keeps fun b o e => (e0.bs b o e).1
  have hl := len _ _ _ _ _ hsp
  have places : ∀ y ∈ ps.zip us, scope.names.lookup y.1 = some .local ∨ (scope.names.lookup y.1 = some .cell ∧ ((cellsFrom (s.heap.objs.size + 1) scope.names []).lookup y.1).isSome = true) := fun y hy =>
    (S.par y.1 (List.of_mem_zip (a := y.1) (b := y.2) hy).1).imp id fun q => ⟨q, PySem.W.cellsFrom_some _ _ _ (.inl q)⟩
  refine codeAny_call_function hr.depth (KX _ _ lk) rfl S.co S.gen rfl (PySem.W.codeRec_of KX hcd) (hb _ _ _ _ (wpAny_newFunctionEnv_cells S.kind places fun env he s1 x => ?_))
  subst he
  obtain ⟨t, ht, hq⟩ := hbody A outer s H vs Q E (hr.deeper _) hsp
  refine ⟨lim.keeps x.toInCall.keep, codeAny_func (wpAny_mono (ht.run [] s1 (L2.start N vs) H _ (inv_start S hr.hd e0 hl r x) hq) (fun fl s' hs => ?_) fun e s' hs => hs)⟩
  cases fl with
  | ret u =>
    obtain ⟨v, σ', H', J, rv, q⟩ := hs
    exact ⟨v, H', J.os, J.bare, J.base, J.hok, rv, q⟩
  | next =>
    obtain ⟨σ', H', J, q⟩ := hs
    exact ⟨.non, H', J.os, J.bare, J.base, J.hok, rfl, q⟩
  | brk => obtain ⟨_, _, _, q⟩ := hs; exact False.elim q
  | cont => obtain ⟨_, _, _, q⟩ := hs; exact False.elim q
/-- what __iter__ promises: an iterator over the tuple that tp finds at the object -/
def spIt (K : PySem.W.Frag) (tp : Addr → Hp → Addr → Prop) (n : Nat) : Sp := fun vs H Q _ => ∃ a t zs, vs = [.ref a] ∧ tp a H t ∧ SqT K H t zs ∧ ∀ it, H it = none → n ≤ it → Q (.ref it) (upd H it (TiO t it 0))
def iOwn (K : PySem.W.Frag) (C : Addr) (tp : Addr → Hp → Addr → Prop) (te : TE) : TI := fun σ H R => te σ H fun x H1 => ∃ a dx fs t zs, x = .ref a ∧ H1 a = some (.ins C dx fs) ∧ tp a H1 t ∧ SqT K H1 t zs ∧ R (Itt K t) H1
theorem pi_own {X : Cx} {K : PySem.W.Frag} {k : Nat} {C f : Addr} {fd : FuncData} {ps : List Str} {tp : Addr → Hp → Addr → Prop} {e tg : Expr} {te : TE} (hK : X.K = K) (M : Meth X.K C "__iter__" f) (F : FnSz X.prog X.w X.K X.mg X.base CX0 k f fd ps (spIt K tp)) (hr : Room k X.A) (hb : Binds X.K fd ps [])
    (he : PE X e te) : PI X tg e (iOwn K C tp te) := by
  subst hK
  refine ⟨fun pins s σ H R I h => ?_⟩
  refine thn (he.run pins s σ H _ I h) fun u s1 ⟨x, H1, I1, rx, a, dx, fs, t, zs, ex, ea, ht, hq, q⟩ => ?_
  subst ex
  cases rx
  obtain ⟨mA, O, _, _, _, _⟩ := ins_get I1.hok ea
  obtain ⟨od, J, _⟩ := O.look
  obtain ⟨m, Fm⟩ := I1.fr
  refine PySem.W.owit_iter Fm I1.ok.mod.kin J M.at_ M.fn ?_
  have hsp : spIt X.K tp s1.heap.objs.size [.ref a] H1 (fun v H' => ∃ it, v = .ref it ∧ H1 it = none ∧ s1.heap.objs.size ≤ it ∧ H' = upd H1 it (TiO t it 0)) (fun _ _ _ => False) := ⟨a, t, zs, rfl, ht, hq, fun it hn hs => ⟨it, rfl, hn, hs, rfl⟩⟩
  have hl : ([Value.ref a] ++ ([] : List Value)).length = ps.length := F.len _ _ _ _ _ hsp
  refine wpAny_call (codeAny_mono (F.run X.A X.stack s1 H1 ⟨[.ref a], []⟩ [.ref a] [.ref a] _ _ hr I1.env0 (hb s1 [.ref a] I1.kIn hl) (.cons rfl .nil) hsp) fun r s' hq' => ?_)
  cases r with
  | error e => exact absurd hq' (by intro z; exact z)
  | ok fl =>
    cases fl with
    | ret u =>
      obtain ⟨v, H', I2, rv, it, rfl, hn, hs, rfl⟩ := I1.after hq'
      cases rv
      have ei : s'.heap.get? it = some (tiObj t 0) := (I2.hok it _ upd_same).1
      have st : s'.heap.IsTupleIter it t 0 := ⟨_, ei, rfl, rfl⟩
      have I3 : Inv X pins σ H1 s' := by
        have := ItX.inv_drop I2 (a := it) upd_same
        rwa [ItX.dropH_upd hn] at this
      refine wpAny_specialOf (name := Str.ofString "__next__") st.typeIs PySem.F.slot_tuple_iterator_next.lookup ?_
      refine ⟨it, [it], _, _, H1, rfl, I3, turn_tuple t it, st, fun b hb => ?_, q⟩
      have eb : b = it := by simpa using hb
      subst eb
      have fp := ItX.inv_fp I2 (u := TiO t b 0) upd_same (Nat.le_trans I1.sz hs)
      rwa [ItX.dropH_upd hn] at fp
    | _ => exact False.elim hq'
end Sl
namespace Sl
open PySem PySem.Spec PyProof.Rows L2

/-! list(o), o an object whose __iter__ gives an iterator over a tuple and whose __len__ gives a number -/
section
variable {X : Cx} {pins : List (Addr × Obj)} {σ : L2.St} {H : Hp} {s : Shared}
theorem tup_loop {A1 : Around} {t it q : Addr} {zs : List V} {Rs : Result → Shared → Prop} (hh : A1.in1.handled = none) (ht : SqT X.K H t zs) (hq : H q = some (.lst [])) (hz : zs.length ≤ 1000000) (hf : FpOk X pins H it) (hne : it ≠ q)
    (hdone : ∀ s, Inv X pins σ (upd H q (.lst zs)) s → Rs (.ok (.ret .none)) s) :
    ∀ (m i : Nat) (s : Shared), zs.length = i + m → Inv X pins σ (upd H q (.lst (zs.take i))) s → s.heap.IsTupleIter it t i → codeAny (model X.prog X.w) A1 (.builtin "list.extend.loop" ⟨[.ref q, .ref it, .none], []⟩) Rs s := by
  have fp : ∀ ys, FpOk X pins (upd H q (.lst ys)) it := fun ys => ⟨by rw [upd_ne hne]; exact hf.1, hf.2⟩
  have sq : ∀ ys, SqT X.K (upd H q (.lst ys)) t zs := fun ys => (Kp.own (A := [q]) hq rfl (by simp)).sqT ht
  intro m
  induction m with
  | zero =>
    intro i s hl I st
    refine codeAny_builtin PySem.F.entry_extend_loop ?_
    rw [Around.under_plainId PySem.F.plain_extend_loop _]
    show wpAny _ A1.in1 (pyNext (.ref it) >>= _) _ _ s
    obtain ⟨its, rv, p, hzz⟩ := I.tuple (sq _)
    obtain ⟨f0, f1, f2, f3, f4, f5⟩ := fp (zs.take i)
    have hlr := rv.length
    refine wpAny_bind (wpAny_pyNext_tuple_end hh st (show s.heap.IsTuple t its.toArray from p) (by simp; omega) fun h' eb => ?_)
    have I1 : Inv X pins σ (upd H q (.lst (zs.take i))) { s with heap := h' } := I.turned (t' := s.toks) (fun b o hb e => eb b o hb e) f0 f1 f3 f4 f5
    rw [List.take_of_length_le (by omega)] at I1
    exact wpAny_pure (hdone _ I1)
  | succ m ih =>
    intro i s hl I st
    refine codeAny_builtin PySem.F.entry_extend_loop ?_
    rw [Around.under_plainId PySem.F.plain_extend_loop _]
    show wpAny _ A1.in1 (pyNext (.ref it) >>= _) _ _ s
    obtain ⟨its, rv, p, hzz⟩ := I.tuple (sq _)
    have hx : zs[i]? = some (zs[i]'(by omega)) := List.getElem?_eq_getElem (by omega)
    obtain ⟨u, hu, ru⟩ := rv.get hx
    obtain ⟨f0, f1, f2, f3, f4, f5⟩ := fp (zs.take i)
    refine wpAny_bind (wpAny_pyNext_tuple_item st (show s.heap.IsTuple t its.toArray from p) (x := u) (by simpa using hu) fun h' st' sb => ?_)
    have I1 : Inv X pins σ (upd H q (.lst (zs.take i))) { s with heap := h' } := I.turned (t' := s.toks) (fun b o hb e => (sb.2 b hb).trans e) f0 f1 f3 f4 f5
    show wpAny _ A1.in1 (updateSeq q (·.push u) >>= _) _ _ _
    obtain ⟨z, its2, k, r2, hl2, e⟩ := I1.lstM upd_same
    have hll : its2.length = i := by have := r2.length; rw [List.length_take] at this; omega
    have hs : i < sizeLine := by rw [sizeLine_eq]; omega
    refine wpAny_bind (wpAny_updateSeq e rfl (wpAny_pure ⟨plainId_quiet PySem.F.plain_extend_loop _, ?_⟩) (by rw [List.size_toArray]; omega) (by show (its2.toArray.push u).size ≤ sizeLine + 1; rw [Array.size_push, List.size_toArray]; omega))
    have I2 := I1.lset (f := (·.push u)) (its' := its2 ++ [u]) (t' := s.toks) upd_same e (by simp) (r2.append (.cons ru .nil)) (by rw [List.length_append, List.length_singleton]; omega)
    rw [upd_upd, show zs.take i ++ [zs[i]'(by omega)] = zs.take (i + 1) by rw [List.take_add_one, hx]; rfl] at I2
    refine ih (i + 1) _ (by omega) I2 ?_
    exact st'.at fun o e => (Heap.get?_update_other _ _ (Ne.symm hne)).trans e

theorem hint_own {A' : Around} {E : Value → Shared → Prop} {Q : Bool → Shared → Prop} {k : Nat} {C f a dx : Addr} {fs : List (Str × V)} {fd : FuncData} {ps : List Str} {sp : Sp} (M : Meth X.K C "__len__" f) (F : FnOk X.prog X.w X.K X.mg X.base CX0 k f fd ps sp) (hb : Binds X.K fd ps [])
    (hr : Room k A'.in1) (e0 : Env0 X.prog X.w X.K X.mg X.base A'.in1 X.stack s H) (I : Inv X pins σ H s) (ea : H a = some (.ins C dx fs)) (hsp : sp [.ref a] H (fun v H' => (∃ n : Nat, v = .int (n : Int) ∧ n ≤ 1000000) ∧ H' = H) (fun _ _ _ => False))
    (h : ∀ b s', Inv X pins σ H s' → Q b s') : wpAny (model X.prog X.w) A' (Builtin.List.listLengthHint (.ref a)) Q E s := by
  obtain ⟨mA, O, _, _, _, _⟩ := ins_get I.hok ea
  obtain ⟨od, J, _⟩ := O.look
  obtain ⟨m, Fm⟩ := I.fr
  unfold Builtin.List.listLengthHint
  refine wpAny_bind (wpAny_bind (J.type.here ((PySem.W.looks_findIn I.kIn M.at_).here ?_)))
  refine PySem.W.KFB.if_not rfl ?_
  show wpAny _ _ (rule "list.length-hint.len" >>= _) _ _ _
  refine wpAny_bind (wpAny_rule (wpAny_bind (wpAny_attempt ?_)))
  refine PySem.W.len_K Fm I.ok.mod.kin J M.at_ M.fn (wpAny_mono (own_run (dvs := []) F hr e0 hb .nil (fun e s' c => absurd c (by intro z; exact z)) I (us := [.ref a]) (vs := [.ref a]) (.cons rfl .nil) hsp) (fun v s' hv => ?_) fun _ _ z => z)
  obtain ⟨x, H', I2, rx, ⟨n, rfl, hn⟩, rfl⟩ := hv
  obtain ⟨t, rfl⟩ := rx
  refine ⟨⟨by omega, by omega⟩, ?_⟩
  refine wpAny_bind ?_
  show wpAny _ _ (asInt? (Value.int (n : Int) s'.toks) >>= _) _ _ _
  refine wpAny_bind (wpAny_of_eq (a := some (n : Int)) (by rfl) (wpAny_pure ?_))
  show wpAny _ _ (if Builtin.List.listTooLong (n : Int).toNat = true then _ else _) _ _ _
  rw [if_neg (by unfold Builtin.List.listTooLong; simp only [Int.toNat_natCast, decide_eq_true_eq]; rw [sizeLine_eq]; omega)]
  exact wpAny_pure (h _ _ (I2.tok _))

def rListO (K : PySem.W.Frag) (C : Addr) (tp : Addr → Hp → Addr → Prop) (spL : Sp) : List V → Hp → VK → Prop := fun xs H Q => ∃ a dx fs t zs, xs = [.ref a] ∧ H a = some (.ins C dx fs) ∧ zs.length ≤ 1000000 ∧
  ∀ q, H q = none → tp a (upd H q (.lst [])) t ∧ SqT K (upd H q (.lst [])) t zs ∧ (∀ it H', H' = upd (upd H q (.lst [])) it (TiO t it 0) → upd H q (.lst []) it = none → spL [.ref a] H' (fun v H2 => (∃ n : Nat, v = .int (n : Int) ∧ n ≤ 1000000) ∧ H2 = H') (fun _ _ _ => False)) ∧ Q (.ref q) (upd H q (.lst zs))
theorem call_listO {kI kL : Nat} {C fI fL : Addr} {fdI fdL : FuncData} {psI psL : List Str} {tp : Addr → Hp → Addr → Prop} {spL : Sp} (MI : Meth X.K C "__iter__" fI) (FI : FnSz X.prog X.w X.K X.mg X.base CX0 kI fI fdI psI (spIt X.K tp)) (bI : Binds X.K fdI psI [])
    (ML : Meth X.K C "__len__" fL) (FL : FnOk X.prog X.w X.K X.mg X.base CX0 kL fL fdL psL spL) (bL : Binds X.K fdL psL []) (hrI : Room (kI + 2) X.A) (hrL : Room (kL + 3) X.A) (hc : X.calm = true) : CallR X (.type "list") (rListO X.K C tp spL) := by
  intro pins s σ H xs us Q I rv h
  obtain ⟨a, dx, fs, t, zs, rfl, ha, hz, hq⟩ := h
  obtain ⟨u, rfl, ru⟩ := rv.one
  cases ru
  refine callType_codes (Q₁ := fun obj s₁ => obj = .ref s.heap.objs.size ∧ s₁ = { s with heap := s.heap.push { cls := .type "list", data := .seq #[] } }) PySem.F.called_list (PySem.F.typeCall_list_1 _) PySem.F.entry_list_init
    (code_list_new _ ⟨rfl, rfl⟩) fun obj s₁ h₁ => ?_
  obtain ⟨rfl, rfl⟩ := h₁
  have hS : (s.heap.push { cls := .type "list", data := .seq #[] }).get? s.heap.objs.size = some { cls := .type "list", data := .seq #[] } := Heap.get?_push_size _ rfl
  refine ⟨⟨_, hS, rfl⟩, PySem.F.args_list_init_2 _ _, ?_⟩
  have fr : H s.heap.objs.size = none := I.hok.fresh (Nat.le_refl _)
  obtain ⟨htp, hsq, hlen, hQ⟩ := hq _ fr
  have I1 : Inv X pins σ (upd H s.heap.objs.size (.lst [])) { s with heap := s.heap.push { cls := .type "list", data := .seq #[] } } := I.lnew (its := []) (t' := s.toks) .nil (Nat.zero_le _)
  show wpAny _ _ (do let old ← Builtin.List.listItems (.ref s.heap.objs.size); Builtin.List.listUpdate (.ref s.heap.objs.size) (fun _ => #[]); letGo old.toList.reverse; Builtin.List.listExtendWith (.ref s.heap.objs.size) (.ref a) .none) _ _ _
  refine wpAny_bind ?_
  unfold Builtin.List.listItems
  refine wpAny_bind (wpAny_seqItems hS rfl (wpAny_pure ?_))
  show wpAny _ _ (updateSeq s.heap.objs.size (fun _ => #[]) >>= fun _ => letGo (#[] : Array Value).toList.reverse >>= fun _ => Builtin.List.listExtendWith (.ref s.heap.objs.size) (.ref a) .none) _ _ _
  refine wpAny_bind (wpAny_updateSeq hS rfl ?_)
  have I2 := I1.lset (f := fun _ => #[]) (its := []) (its' := []) (ys := []) (t' := s.toks) upd_same hS rfl .nil (Nat.zero_le _)
  rw [upd_upd] at I2
  refine wpAny_bind (wpAny_letGo ?_)
  have ha2 : upd H s.heap.objs.size (.lst []) a = some (.ins C dx fs) := by rw [upd_ne (ne_of_none ha fr)]; exact ha
  generalize hH : upd H s.heap.objs.size (.lst []) = H2 at *
  have hq2 : H2 s.heap.objs.size = some (.lst []) := by rw [← hH]; exact upd_same
  have hne : s.heap.objs.size ≠ a := ne_of hq2 ha2 (fun z => nomatch z)
  obtain ⟨mA, O, _⟩ := ins_get I2.hok ha2
  obtain ⟨od, J, _⟩ := O.look
  obtain ⟨m0, hF⟩ := I2.fr
  unfold Builtin.List.listExtendWith
  refine wpAny_bind (J.type.here ?_)
  have h1 : Builtin.List.listSameRef (.ref s.heap.objs.size) (.ref a) = false := by simp [Builtin.List.listSameRef, hne]
  have h2 : (Value.ref C == Value.type "list") = false := rfl
  have h3 : (Value.ref C == Value.type "tuple") = false := rfl
  simp only [h1, h2, h3, Bool.or_false, Bool.false_eq_true, if_false]
  refine wpAny_bind (PySem.W.owit_iter hF I2.ok.mod.kin J MI.at_ MI.fn ?_)
  generalize hs2 : ({ s with heap := (s.heap.push { cls := .type "list", data := .seq #[] }).update s.heap.objs.size (Obj.mapSeq fun _ => #[]) } : Shared) = s2 at *
  have sz2 : s.heap.objs.size < s2.heap.objs.size := by
    obtain ⟨z, its, k, r3, hl3, e3⟩ := I2.lstM hq2
    exact Heap.lt_size e3
  have e0 : ∀ {s3 H3}, Inv X pins σ H3 s3 → Env0 X.prog X.w X.K X.mg X.base X.A.in1.in1 X.stack s3 H3 := fun I => I.env0.in1.in1
  have hsp : spIt X.K tp s2.heap.objs.size [.ref a] H2 (fun v H' => ∃ it, v = .ref it ∧ H2 it = none ∧ s2.heap.objs.size ≤ it ∧ H' = upd H2 it (TiO t it 0)) (fun _ _ _ => False) := ⟨a, t, zs, rfl, htp, hsq, fun it hn hs => ⟨it, rfl, hn, hs, rfl⟩⟩
  have hl : ([Value.ref a] ++ ([] : List Value)).length = psI.length := FI.len _ _ _ _ _ hsp
  refine wpAny_call (codeAny_mono (FI.run _ X.stack s2 H2 ⟨[.ref a], []⟩ [.ref a] [.ref a] _ _ hrI.in1.in1 (e0 I2) (bI s2 [.ref a] I2.kIn hl) (.cons rfl .nil) hsp) fun r s' hq' => ?_)
  cases r with
  | error e => exact absurd hq' (by intro z; exact z)
  | ok fl =>
    cases fl with
    | ret u =>
      obtain ⟨v, H', I3, rv, it, rfl, hn, hs, rfl⟩ := I2.after hq'
      cases rv
      have ei : s'.heap.get? it = some (tiObj t 0) := (I3.hok it _ upd_same).1
      have st : s'.heap.IsTupleIter it t 0 := ⟨_, ei, rfl, rfl⟩
      refine wpAny_specialOf (name := Str.ofString "__next__") st.typeIs PySem.F.slot_tuple_iterator_next.lookup ?_
      have ha3 : upd H2 it (TiO t it 0) a = some (.ins C dx fs) := by rw [upd_ne (ne_of_none ha2 hn)]; exact ha2
      have nqi : it ≠ s.heap.objs.size := Nat.ne_of_gt (Nat.lt_of_lt_of_le sz2 hs)
      refine wpAny_bind (wpAny_holding (hint_own ML FL bL hrL.in1.in1.in1 I3.env0.in1.in1.in1 I3 ha3 (hlen it _ rfl hn) fun b s4 I4 => ?_))
      have hq3 : upd H2 it (TiO t it 0) s.heap.objs.size = some (.lst []) := by rw [upd_ne nqi.symm]; exact hq2
      have fin : ∀ s5, Inv X pins σ (upd H2 it (TiO t it 0)) s5 → codeAny (model X.prog X.w) X.A.in1 (.builtin "list.extend.loop" ⟨[.ref s.heap.objs.size, .ref it, .none], []⟩) (wants (fun r s₂ => r = .none ∧ EP X pins σ Q (.ref s.heap.objs.size) s₂) X.xe) s5 := fun s5 I5 => by
        have e5 : s5.heap.get? it = some (tiObj t 0) := (I5.hok it _ upd_same).1
        have st5 : s5.heap.IsTupleIter it t 0 := ⟨_, e5, rfl, rfl⟩
        have I6 : Inv X pins σ H2 s5 := by
          have := ItX.inv_drop I5 (a := it) upd_same
          rwa [ItX.dropH_upd hn] at this
        have fp := ItX.inv_fp I5 (u := TiO t it 0) upd_same (Nat.le_trans I2.sz hs)
        rw [ItX.dropH_upd hn] at fp
        have e0' : upd H2 s.heap.objs.size (.lst (zs.take 0)) = H2 := by
          funext b
          by_cases hb : b = s.heap.objs.size
          · rw [hb, upd_same, hq2]; rfl
          · rw [upd_ne hb]
        refine tup_loop (A1 := X.A.in1) (Rs := wants (fun r s₂ => r = .none ∧ EP X pins σ Q (.ref s.heap.objs.size) s₂) X.xe) (i := 0) (m := zs.length) (I6.ok.hd hc) hsq hq2 hz fp nqi (fun s7 I7 => ⟨rfl, .ref s.heap.objs.size, _, I7, rfl, ?_⟩) s5 (by omega) (by rw [e0']; exact I6) st5
        have : upd H2 s.heap.objs.size (.lst zs) = upd H s.heap.objs.size (.lst zs) := by rw [← hH, upd_upd]
        rw [this]
        exact hQ
      refine wpAny_ite_split (fun _ => ?_) (fun _ => wpAny_pure ⟨plainId_quiet PySem.F.plain_extend_loop _, fin _ I4⟩)
      refine wpAny_bind (wpAny_rule ?_)
      refine wpAny_bind ?_
      show wpAny _ _ (updateSeq s.heap.objs.size (·.push .none) >>= fun _ => updateSeq s.heap.objs.size (·.pop)) _ _ _
      obtain ⟨z3, its3, k3, r3, hl3, e3⟩ := I4.lstM hq3
      cases r3
      refine wpAny_bind (wpAny_updateSeq e3 rfl ?_)
      have I5 := I4.lset (f := (·.push Value.none)) (its' := [Value.none]) (ys := [.non]) (t' := s4.toks) hq3 e3 (by simp) (.cons rfl .nil) (by rw [List.length_singleton, sizeLine_eq]; decide)
      obtain ⟨z4, its4, k4, r4, hl4, e4⟩ := I5.lstM upd_same
      obtain ⟨u4, rfl, ru4⟩ := r4.one
      refine wpAny_updateSeq e4 rfl ?_ (by show 1 ≤ sizeLine; rw [sizeLine_eq]; decide) (by show 0 ≤ sizeLine + 1; exact Nat.zero_le _)
      refine wpAny_pure ⟨plainId_quiet PySem.F.plain_extend_loop _, fin _ ?_⟩
      have I6 := I5.lset (f := (·.pop)) (its := [u4]) (its' := []) (ys := []) (t' := s4.toks) upd_same e4 (by rfl) .nil (Nat.zero_le _)
      rw [upd_upd] at I6
      have hH' : upd (upd H2 it (TiO t it 0)) s.heap.objs.size (.lst []) = upd H2 it (TiO t it 0) := by
        funext b
        by_cases hb : b = s.heap.objs.size
        · rw [hb, upd_same, hq3]
        · rw [upd_ne hb]
      rw [hH'] at I6
      exact I6
    | _ => exact False.elim hq'
end
theorem fnR_ok {P : Program} {w : World} {K : PySem.W.Frag} {mg : Str → Option Value} {base : Heap} {CX : CXT} {k : Nat} {f : Addr} {fd : FuncData} {ps : List Str} {sp : Sp} (F : FnOk P w K mg base CX k f fd ps sp) (hb : Binds K fd ps []) : FnR P w K mg base CX k f sp :=
  (F.raw hb .nil).imp fun vs H Q E h => by rw [List.append_nil]; exact h
/-- a call that is shown to raise nothing -/
theorem passN {X : Cx} : Passes (L2.CX X.prog X.w) X (fun _ _ _ => False) := fun pins σ H s e s' I c => by
  obtain ⟨a, B, H', cls, d, rfl, fl, hok, ub, na, os, ag, hE⟩ := c
  exact hE.elim
end Sl
/-! own classes, more: o[k] by its __getitem__, i * o by its __rmul__, C() -/
namespace PySem.W.Own2
open PySem PySem.Calls PyProof.Rows
section
variable {prog : Program} {w : World} {A : Around} {E : Value → Shared → Prop} {s : Shared} {K : Frag} {x C L f g : Addr} {h₀ : Heap} {m : Str → Option Value} {ox : Obj} {od : Option Obj} {T : String}
theorem rbin_K {op : Operator} {b : Value} {fo ro : Option Value} {Q : Value → Shared → Prop} (F : Fr h₀ L s.heap m) (X₀ : K.In h₀) (I : InstAt s.heap x ox C od) (hb : typeOf b = pure (.type T)) (hc : selfFirst K C = true)
    (hs : findIn K (.ref C) (PySem.dunder op.info.2) = some (some (.ref g))) (hr : findIn K (.ref C) (dunderR op.info.2) = some (some (.ref f))) (hf : isFn K (.ref f) = true)
    (h1 : findIn K (.type T) (PySem.dunder op.info.2) = some fo) (h2 : findIn K (.type T) (dunderR op.info.2) = some ro) (hsub : subIn K (.ref C) (.type T) = some false)
    (hd : wpAny (model prog w) A (tryMethod b (PySem.dunder op.info.2) (.ref x)) (fun r s' => r = none ∧ s' = s) E s)
    (h : wpAny (model prog w) A (call (.ref f) [.ref x, b]) (CmpBack Q) E s) : wpAny (model prog w) A (binaryOp op b (.ref x)) Q E s := by
  have X := X₀.keeps F.keep
  obtain ⟨cd, rest, hcd, hm⟩ := ksp_first hc
  rcases hi : op.info with ⟨sym, nm'⟩
  rw [hi] at hs hr h1 h2 hd
  dsimp only at hs hr h1 h2 hd
  have one := ksp_try X I hr hf h
  obtain ⟨hh, g', d, tt, os⟩ := s
  have L1 : Looks (model prog w) hh (typeOf (.ref x)) (.ref C) := I.type
  have L2 : Looks (model prog w) hh (typeOf b) (.type T) := Looks.of_pure hb
  have L3 : Looks (model prog w) hh (fillsNumberSlot (.ref C) nm') true := fills_K X hcd hm hs
  have L4 : Looks (model prog w) hh (fillsNumberSlot (.type T) nm') ((fo.isSome && !isSeqSlot fo) || (ro.isSome && !isSeqSlot ro)) := ksp_fillsT X h1 h2
  have L5 : Looks (model prog w) hh (isSubtype (.ref C) (.type T)) false := looks_subIn X hsub
  have L7 : Looks (model prog w) hh (numberSlotInPython (.type T) nm') false := Looks.of_pure rfl
  generalize ((fo.isSome && !isSeqSlot fo) || (ro.isSome && !isSeqSlot ro)) = left at L4
  have hne : (Value.type T == Value.ref C) = false := Bool.eq_false_iff.mpr fun q => by cases beq_iff_eq.mp q
  simp only [binaryOp, hi]
  refine wpAny_holding (wpAny_bind ?_)
  unfold binaryOp1
  refine wpAny_bind (L2.at (wpAny_bind (L1.at (wpAny_bind (L4.at ?_)))))
  simp only [hne, Bool.false_eq_true, if_false]
  refine wpAny_bind (L3.at ?_)
  cases left with
  | false =>
    ksp_lk
    refine wpAny_mono one (fun r s' hr' => ?_) fun _ _ e => e
    obtain ⟨v, rfl, hq⟩ := hr'
    ksp_lk
    exact hq
  | true =>
    ksp_lk
    refine wpAny_mono hd (fun r s' hr' => ?_) fun _ _ e => e
    obtain ⟨rfl, rfl⟩ := hr'
    ksp_lk
    refine wpAny_mono one (fun r s' hr' => ?_) fun _ _ e => e
    obtain ⟨v, rfl, hq⟩ := hr'
    ksp_lk
    exact hq
end
end PySem.W.Own2
namespace Sl
open PySem PySem.Spec PyProof.Rows L2
theorem int_mul_own (i : Int) (t : Tok) (a C dx : Addr) :
    Meets (Builtin.«int.__mul__» ⟨[.int i t, .ref a], []⟩) (fun _ R s => s.heap.get? a = some (PySem.W.instObj C dx) ∧ R (.ok (.ret Value.notImplemented)) s) :=
  .of_wp fun prog w A R s h => by
    obtain ⟨hp, g, d, tk, os⟩ := s
    obtain ⟨hl, h⟩ := h
    wp_walk
    exact ⟨_, rfl, h⟩
section
variable {X : Cx} {CX : CXT} {k : Nat} {f g C : Addr} {fd : FuncData} {ps : List Str} {sp : Sp} {E : L2.St → XK}
/-- what the text says of the class right of an int -/
structure RinT (K : PySem.W.Frag) (C g : Addr) (op : Operator) : Prop where
  first : PySem.W.selfFirst K C = true
  l : PySem.W.findIn K (.ref C) (PySem.dunder op.info.2) = some (some (.ref g))
  h1 : ∃ fo, PySem.W.findIn K (.type "int") (PySem.dunder op.info.2) = some fo
  h2 : ∃ ro, PySem.W.findIn K (.type "int") (PySem.dunderR op.info.2) = some ro
  sub : PySem.W.subIn K (.ref C) (.type "int") = some false
def tMulR (C : Addr) (sp : Sp) (E : L2.St → XK) (ta tb : TE) : TE := fun σ H Q => ta σ H fun x H1 => tb σ H1 fun y H2 => ∃ i a dx fs, x = .int i ∧ y = .ref a ∧ H2 a = some (.ins C dx fs) ∧ sp [.ref a, .int i] H2 Q (E σ)
theorem pe_mulR {a b : Expr} {ta tb : TE} {pos : Pos} (B : RinT X.K C g .Mult) (M : Meth X.K C (PySem.dunderR (Operator.Mult).info.2) f) (F : FnOk X.prog X.w X.K X.mg X.base CX k f fd ps sp) (hr : Room k X.A) (hb : Binds X.K fd ps [])
    (hx : ∀ σ, PassesAt CX X σ (E σ)) (ha : PE X a ta) (hb2 : PE X b tb) : PE X (.BinOp a .Mult b pos) (tMulR C sp E ta tb) := by
  refine ⟨fun pins s σ H Q I h => ?_⟩
  refine wpAny_BinOp (thn (ha.run pins s σ H _ I h) fun v s1 ⟨x, H1, I1, rx, q1⟩ => thn (hb2.run pins s1 σ H1 _ I1 q1) fun u s2 ⟨y, H2, I2, ry, q2⟩ => ?_)
  obtain ⟨i, o, dx, fs, rfl, rfl, ea, q⟩ := q2
  cases ry
  obtain ⟨t, rfl⟩ := rx
  obtain ⟨mA, O, _, _, _, _⟩ := ins_get I2.hok ea
  obtain ⟨od, J, _⟩ := O.look
  obtain ⟨m, Fm⟩ := I2.fr
  obtain ⟨_, _, _, ho, _⟩ := (show ObjOk X.prog X.w H2 s2.heap o (.ins C dx fs) from I2.hok o _ ea)
  obtain ⟨fo, h1⟩ := B.h1
  obtain ⟨ro, h2⟩ := B.h2
  refine PySem.W.Own2.rbin_K Fm I2.ok.mod.kin J rfl B.first B.l M.at_ M.fn h1 h2 B.sub ?_ (wpAny_mono (own_run (dvs := []) F hr I2.env0 hb .nil (fun e s' c => hx σ pins H2 s2 e s' I2 c) I2 (us := [.ref o, .int i t]) (vs := [.ref o, .int i]) (.cons rfl (.cons ⟨t, rfl⟩ .nil)) q) (fun w s' hv => cmp_back hv) fun _ _ z => z)
  refine wpAny_tryMethod_declines (T := "int") (s := s2) (self := .int i t) (show s2.TypeIs (.int i t) "int" from rfl) PySem.F.slot_int_mul ?_
  exact call_meets PySem.F.slot_int_mul rfl PySem.F.entry_int_mul (PySem.F.args_int_mul_2 _ _) (int_mul_own i t o C dx) ⟨ho, rfl, rfl, rfl⟩
/-- o[k] -/
def tIxO (C : Addr) (sp : Sp) (E : XK) (ta tb : TE) : TE := fun σ H Q => ta σ H fun x H1 => tb σ H1 fun y H2 => ∃ a dx fs, x = .ref a ∧ H2 a = some (.ins C dx fs) ∧ sp [.ref a, y] H2 Q E
theorem pe_ixO {E : XK} {a b : Expr} {ta tb : TE} {pos : Pos} (M : Meth X.K C "__getitem__" f) (hf : PySem.W.fnIn X.K f = true) (F : FnOk X.prog X.w X.K X.mg X.base CX k f fd ps sp) (hr : Room (k + 1) X.A) (hb : Binds X.K fd ps []) (hx : Passes CX X E)
    (ha : PE X a ta) (hb2 : PE X b tb) (hsl : ∀ o v, subscripted b true (.ref o) v = runValue (.builtin "lifetime.subscript" ⟨[.ref o, v], []⟩) := by intro _ _; with_unfolding_all rfl) : PE X (.Subscript a b pos) (tIxO C sp E ta tb) := by
  refine ⟨fun pins s σ H Q I h => ?_⟩
  refine Subscript_ (binT ha hb2 I h fun v u s2 x y H2 I2 rx ry q => ?_)
  obtain ⟨o, dx, fs, rfl, ea, q⟩ := q
  cases rx
  obtain ⟨mA, O, _, _, _, _⟩ := ins_get I2.hok ea
  obtain ⟨od, J, _⟩ := O.look
  obtain ⟨m, Fm⟩ := I2.fr
  exact PySem.W.sub_K Fm I2.ok.mod.kin J M.at_ hf M.fn (own_run (dvs := []) F hr.in1 I2.env0.in1 hb .nil (fun e s' c => hx pins σ H2 s2 e s' I2 c) I2 (us := [.ref o, u]) (vs := [.ref o, y]) (.cons rfl (.cons ry .nil)) q) (hsl _ _)
theorem fnIn_of {K : PySem.W.Frag} {x qual : Str} {st : Stmt} (F : Fun K x qual st f fd) : PySem.W.fnIn K f = true := by
  obtain ⟨oc, od, kV, doc, pm, an, cdv, ct, osl, rfl, lk, hcd⟩ := F.ex
  unfold PySem.W.fnIn
  rw [lk]
theorem binds_full {K : PySem.W.Frag} (h : ∃ ds, Vals [] ds ∧ Binds K fd ps ds) : Binds K fd ps [] := by
  obtain ⟨ds, hv, hb⟩ := h
  cases hv
  exact hb
/-- C() -/
theorem pe_makeO0 {x : Str} {p pos : Pos} {dvs : List V} {ds : List Value} (M : Mk X.K C f) (F : FnOk X.prog X.w X.K X.mg X.base CX k f fd ps sp) (hr : Room (k + 1) X.A) (hg : Gl X x) (hm : X.mg x = some (.ref C)) (hb : Binds X.K fd ps ds) (hd : Vals dvs ds) (hx : ∀ σ, PassesAt CX X σ (E σ))
    (hdb : (x == ("__debug__" : Str)) = false := by decide) :
    PE X (.Call (.Name x p) [] [] pos) (tMakeO C sp dvs E tNil) := by
  refine ⟨fun pins s σ H Q I h => ?_⟩
  refine wpAny_Call_Name_kw (ld_glob I hg hm ?_ hdb)
  exact PySem.W.callWith_K0 I.kIn M.kp (run_makeO M F hr hb hd (hx σ) I .nil h)
end
end Sl
namespace Sl
open PySem PySem.Spec PyProof.Rows L2
local macro_rules | `(tactic| walk_at "nin") => `(tactic| first | assumption | exact List.not_mem_nil | (simp only [List.mem_cons, List.not_mem_nil, not_or, or_false, not_false_eq_true, and_true]; first | assumption | walk_at "ne" | (refine ⟨?_, ?_⟩ <;> walk_at "ne") | (refine ⟨?_, ?_, ?_⟩ <;> walk_at "ne")))
local macro_rules | `(tactic| walk_at "ne") => `(tactic| first | assumption | exact Ne.symm (by assumption) | (refine Fr.ne ?_ ?_ <;> first | assumption | walk_at "hp") | (refine Ne.symm (Fr.ne ?_ ?_) <;> first | assumption | walk_at "hp"))
local macro_rules | `(tactic| walk_at "hp") => `(tactic| first
  | assumption
  | exact upd_same
  | (refine Eq.trans (upd_ne ?_) ?_ <;> first | walk_at "hp" | walk_at "ne")
  | (refine Kp.get (by assumption) ?_ ?_ <;> first | walk_at "hp" | exact .inr rfl | exact .inl List.not_mem_nil | (refine .inl ?_; walk_at "nin")))
local macro_rules | `(tactic| walk_at "sl") => `(tactic| first | assumption | (refine .inl (.inl ?_); walk_at "hp") | (refine Kp.sqL (by assumption) ?_ ?_ <;> first | walk_at "sl" | walk_at "nin") | (refine Kp.sqL (Kp.new (by assumption)) (A := []) List.not_mem_nil ?_; walk_at "sl"))
local macro_rules | `(tactic| walk_at "rd") => `(tactic| first
  | refine ⟨_, rfl, ?_⟩
  | refine ⟨_, _, rfl, rfl, ?_⟩
  | refine ⟨_, _, rfl, rfl, (by first | decide | omega), ?_⟩
  | refine .inl ⟨_, rfl, ?_⟩
  | refine ⟨rfl, ?_⟩
  | refine ⟨_, _, _, _, rfl, rfl, (by walk_at "sl"), rfl, ?_⟩)
local macro_rules | `(tactic| walk_at "rds") => `(tactic| repeat (walk_at "rd"))
local macro_rules | `(tactic| walk_at "vl") => `(tactic| first
  | exact vl_c
  | exact vl_var rfl
  | (refine' vl_op ?h1 ?h2 ?h3; (case h1 => walk_at "vl"); (case h2 => walk_at "vl"); (case h3 => walk_at "rl"))
  | (refine' vl_un ?h1 ?h3; (case h1 => walk_at "vl"); (case h3 => walk_at "rl"))
  | (refine' vl_cb1 ?h1 ?h3; (case h1 => walk_at "vl"); (case h3 => walk_at "rl"))
  | (refine' vl_cb2 ?h1 ?h2 ?h3; (case h1 => walk_at "vl"); (case h2 => walk_at "vl"); (case h3 => walk_at "rl"))
  | (refine' vl_not ?h1; (case h1 => walk_at "vl"))
  | (refine' vl_andV ?h1 ?h2; (case h1 => walk_at "vl"); (case h2 => intro _; walk_at "vl"))
  | (refine' vl_orV ?h1 ?h2; (case h1 => walk_at "vl"); (case h2 => intro _; walk_at "vl"))
  | (refine' vl_chain ?h1 ?h2 ?h3 ?h4 ?h5; (case h1 => walk_at "vl"); (case h2 => walk_at "vl"); (case h4 => walk_at "rl"); (case h3 => intro _; walk_at "vl"); (case h5 => intro _; walk_at "rl")))
local macro_rules | `(tactic| walk_at "rl") => `(tactic| (intro Q' q'; first
  | exact ⟨_, _, rfl, rfl, q'⟩
  | exact ⟨rfl, q'⟩
  | exact ⟨_, rfl, q'⟩
  | exact .inl ⟨_, rfl, q'⟩
  | exact ⟨_, _, _, _, rfl, rfl, (by assumption), rfl, q'⟩
  | exact ⟨_, _, rfl, .inr ⟨_, by assumption, rfl⟩, q'⟩
  | exact ⟨_, _, rfl, .inl ⟨_, by assumption, rfl⟩, q'⟩
  | exact ⟨_, rfl, (by first | assumption | exact sz (by assumption) | exact sz (by omega)), q'⟩
  | exact ⟨_, _, rfl, rfl, (by first | assumption | exact ⟨by omega, by omega⟩ | (show (0 : Int) < _; omega) | exact .inl ⟨by omega, by omega⟩ | exact .inr ⟨by omega, by omega⟩), q'⟩))
local macro_rules | `(tactic| walk_at "an") => `(tactic| first
  | (refine' an_and ?h1 ?h2; (case h1 => walk_at "an"); (case h2 => intro _; walk_at "an"))
  | (refine' an_or ?h1 ?h2; (case h1 => walk_at "an"); (case h2 => intro _; walk_at "an"))
  | (refine' an_not ?h1; (case h1 => walk_at "an"))
  | (refine' an_cmp ?h1 ?h2 ?h3; (case h1 => walk_at "vl"); (case h2 => walk_at "vl"); (case h3 => walk_at "rl"))
  | (refine' an_val ?h1; (case h1 => walk_at "vl"))
  | (refine' an_test ?h1; (case h1 => walk_at "vl")))
local macro_rules | `(tactic| walk_at "if") => `(tactic| ((try refine gnK ?_); (first | refine' seq_if0 ?h ?k1 ?k2 | refine' seq_if ?h ?k1 ?k2 | refine' if_an ?h ?k1 ?k2); (case h => walk_at "an")))
local macro_rules | `(tactic| walk_at "st") => `(tactic| ((try refine gnK ?_); first | refine seq_setK ?_ | refine setK ?_ | refine seq_dropK ?_ | refine dropK' ?_ | refine seq_ifK0 ?_ | refine seq_ifK ?_ | refine if_anK ?_ | refine retK ?_ | refine nextK ?_))
local macro_rules | `(tactic| walk_at "set") => `(tactic| (refine' seq_set ?h ?k; (case h => walk_at "vl")))
theorem asB {Q : VK} {b b' : Bool} {H : Hp} (q : Q (.bl b) H) (e : b = b') : Q (.bl b') H := e ▸ q
/-- the keys of a dict of texts -/
def keysOf (kvs : List (Key × V)) : List Key := kvs.map (·.1)
theorem nd_putKA {kvs : List (Key × V)} {k : Key} (v : V) (h : (keysOf kvs).Nodup) : (keysOf (putK kvs k v)).Nodup := by
  cases e : valV kvs k with
  | none => exact nd_putK v h e
  | some x =>
    have a : (kvs.any fun kv => decide (kv.1 = k)) = true := by rw [valV_any, e]; rfl
    have e2 : keysOf (putK kvs k v) = keysOf kvs := by
      unfold putK keysOf
      rw [if_pos a, List.map_map]
      refine List.map_congr_left fun p _ => ?_
      show (if p.1 = k then (p.1, v) else p).1 = p.1
      split <;> rfl
    rw [e2]; exact h
theorem keys_put {kvs : List (Key × V)} {k : Key} {v : V} : (∀ x, x ∈ keysOf (putK kvs k v) ↔ x ∈ keysOf kvs ∨ x = k) := by
  intro x
  have e : ∀ l : List (Key × V), x ∈ keysOf l ↔ (valV l x).isSome = true := fun l => by
    rw [← valV_any, List.any_eq_true, keysOf, List.mem_map]
    constructor
    · rintro ⟨p, hp, rfl⟩; exact ⟨p, hp, by simp⟩
    · rintro ⟨p, hp, h⟩; exact ⟨p, hp, by simpa using h⟩
  rw [e, e, valV_put]
  by_cases h : x = k
  · simp [h]
  · simp [h]
structure Mgd (kvs : List (Key × V)) (xs : List Str) : Prop where
  nd : (keysOf kvs).Nodup
  mem : ∀ x : Key, x ∈ keysOf kvs ↔ ∃ s ∈ xs, x = Sum.inr s
theorem Mgd.put {kvs : List (Key × V)} {xs : List Str} {s : Str} {v : V} (m : Mgd kvs xs) : Mgd (putK kvs (Sum.inr s) v) (xs ++ [s]) := by
  refine ⟨nd_putKA _ m.nd, fun x => ?_⟩
  rw [keys_put, m.mem]
  constructor
  · rintro (⟨t, ht, rfl⟩ | rfl)
    · exact ⟨t, List.mem_append_left _ ht, rfl⟩
    · exact ⟨s, List.mem_append_right _ (List.mem_singleton.mpr rfl), rfl⟩
  · rintro ⟨t, ht, rfl⟩
    rcases List.mem_append.mp ht with h | h
    · exact .inl ⟨t, h, rfl⟩
    · rw [List.mem_singleton.mp h]; exact .inr rfl
theorem Mgd.keys {kvs : List (Key × V)} {xs : List Str} (m : Mgd kvs xs) : ∃ ks : List Str, keysOf kvs = ks.map Sum.inr ∧ ks.Nodup ∧ ∀ s, s ∈ ks ↔ s ∈ xs := by
  have go : ∀ l : List Key, l.Nodup → (∀ x ∈ l, ∃ s, x = Sum.inr s) → ∃ ks : List Str, l = ks.map Sum.inr ∧ ks.Nodup := by
    intro l
    induction l with
    | nil => exact fun _ _ => ⟨[], rfl, List.nodup_nil⟩
    | cons x l ih =>
      intro nd h
      obtain ⟨s, rfl⟩ := h x (List.mem_cons_self ..)
      obtain ⟨ks, e, n⟩ := ih (List.nodup_cons.mp nd).2 fun y hy => h y (List.mem_cons_of_mem _ hy)
      refine ⟨s :: ks, by rw [e]; rfl, List.nodup_cons.mpr ⟨fun hm => (List.nodup_cons.mp nd).1 (by rw [e]; exact List.mem_map_of_mem hm), n⟩⟩
  obtain ⟨ks, e, n⟩ := go _ m.nd fun x hx => by
    obtain ⟨s, _, rfl⟩ := (m.mem x).mp hx
    exact ⟨s, rfl⟩
  refine ⟨ks, e, n, fun s => ?_⟩
  have h := m.mem (Sum.inr s)
  rw [e] at h
  constructor
  · intro hs
    obtain ⟨t, ht, q⟩ := h.mp (List.mem_map_of_mem hs)
    cases q; exact ht
  · intro hs
    obtain ⟨t, ht, q⟩ := List.mem_map.mp (h.mpr ⟨s, hs, rfl⟩)
    cases q; exact ht
theorem nodup_short : ∀ {l m : List Str}, l.Nodup → (∀ x ∈ l, x ∈ m) → l.length ≤ m.length
  | [], _, _, _ => Nat.zero_le _
  | x :: l, m, nd, h => by
    have hx := h x (List.mem_cons_self ..)
    have n := List.nodup_cons.mp nd
    have ih := nodup_short (m := m.erase x) n.2 fun y hy => (List.mem_erase_of_ne (fun e => by subst e; exact n.1 hy)).mpr (h y (List.mem_cons_of_mem _ hy))
    rw [List.length_erase_of_mem hx] at ih
    have : 0 < m.length := List.length_pos_of_mem hx
    simp only [List.length_cons]; omega
theorem mem_keys_len {kvs : List (Key × V)} {xs : List Str} (m : Mgd kvs xs) : kvs.length ≤ xs.length := by
  obtain ⟨ks, e, nd, h⟩ := m.keys
  have h1 : kvs.length = ks.length := by
    have := congrArg List.length e
    simpa [keysOf] using this
  rw [h1]
  exact nodup_short nd fun x hx => (h x).mp hx
/-! data of tuples, ints and texts alone: it stands whatever changes; n: how deep -/
mutual
inductive Fd (K : PySem.W.Frag) (H : Hp) : Nat → V → PyData → Prop
  | int {n : Nat} (i : Int) : Fd K H n (.int i) (.int i)
  | str {n : Nat} (s : Str) : Fd K H n (.str s) (.str s)
  | tup {n : Nat} {a : Addr} {xs : List V} {ds : List PyData} : SqT K H a xs → FdAll K H n xs ds → Fd K H (n + 1) (.ref a) (.tuple ds)
inductive FdAll (K : PySem.W.Frag) (H : Hp) : Nat → List V → List PyData → Prop
  | nil {n : Nat} : FdAll K H n [] []
  | cons {n : Nat} {v : V} {vs : List V} {d : PyData} {ds : List PyData} : Fd K H n v d → FdAll K H n vs ds → FdAll K H n (v :: vs) (d :: ds)
end
section
variable {A : List Addr} {K : PySem.W.Frag} {H H' : Hp} {n m : Nat}
mutual
theorem Fd.kp (k : Kp A H H') : ∀ {n : Nat} {v : V} {d : PyData}, Fd K H n v d → Fd K H' n v d
  | _, _, _, .int i => .int i
  | _, _, _, .str x => .str x
  | _, _, _, .tup h t => .tup (k.sqT h) (FdAll.kp k t)
theorem FdAll.kp (k : Kp A H H') : ∀ {n : Nat} {vs : List V} {ds : List PyData}, FdAll K H n vs ds → FdAll K H' n vs ds
  | _, _, _, .nil => .nil
  | _, _, _, .cons h t => .cons (Fd.kp k h) (FdAll.kp k t)
end
mutual
theorem Fd.dp : ∀ {n : Nat} {v : V} {d : PyData}, Fd K H n v d → Dp K H v d
  | _, _, _, .int i => .int i
  | _, _, _, .str x => .str x
  | _, _, _, .tup h t => .tup h (FdAll.dp t)
theorem FdAll.dp : ∀ {n : Nat} {vs : List V} {ds : List PyData}, FdAll K H n vs ds → DpAll K H vs ds
  | _, _, _, .nil => .nil
  | _, _, _, .cons h t => .cons (Fd.dp h) (FdAll.dp t)
end
mutual
theorem Fd.up : ∀ {n : Nat} {v : V} {d : PyData}, Fd K H n v d → Fd K H (n + 1) v d
  | _, _, _, .int i => .int i
  | _, _, _, .str x => .str x
  | _, _, _, .tup h t => .tup h (FdAll.up t)
theorem FdAll.up : ∀ {n : Nat} {vs : List V} {ds : List PyData}, FdAll K H n vs ds → FdAll K H (n + 1) vs ds
  | _, _, _, .nil => .nil
  | _, _, _, .cons h t => .cons (Fd.up h) (FdAll.up t)
end
mutual
theorem Fd.plain : ∀ {n : Nat} {v : V} {d : PyData}, Fd K H n v d → PyData.plain d = true
  | _, _, _, .int i => rfl
  | _, _, _, .str x => rfl
  | _, _, _, .tup h t => by rw [PyData.plain]; exact FdAll.plain t
theorem FdAll.plain : ∀ {n : Nat} {vs : List V} {ds : List PyData}, FdAll K H n vs ds → PyData.plainAll ds = true
  | _, _, _, .nil => rfl
  | _, _, _, .cons h t => by rw [PyData.plainAll, Fd.plain h, FdAll.plain t]; rfl
end
mutual
theorem Fd.depth : ∀ {n : Nat} {v : V} {d : PyData}, Fd K H n v d → PyData.depth d ≤ n + 1
  | _, _, _, .int i => by simp [PyData.depth]
  | _, _, _, .str x => by simp [PyData.depth]
  | _, _, _, .tup h t => by rw [PyData.depth]; have := FdAll.depth t; omega
theorem FdAll.depth : ∀ {n : Nat} {vs : List V} {ds : List PyData}, FdAll K H n vs ds → PyData.depthAll ds ≤ n + 1
  | _, _, _, .nil => by simp [PyData.depthAll]
  | _, _, _, .cons h t => by rw [PyData.depthAll]; have := Fd.depth h; have := FdAll.depth t; omega
end
theorem Fd.pln {v : V} {d : PyData} (h : Fd K H n v d) (hn : n ≤ 31) : pln d := ⟨h.plain, by have := h.depth; omega⟩
theorem eqv_same {d : PyData} (h : d.plain = true) : PyData.eqv d d = true := SeqAt.eqv_refl_plain _ h
theorem FdAll.length : ∀ {n : Nat} {vs : List V} {ds : List PyData}, FdAll K H n vs ds → vs.length = ds.length
  | _, _, _, .nil => rfl
  | _, _, _, .cons _ t => congrArg Nat.succ (FdAll.length t)
theorem FdAll.at : ∀ {n : Nat} {vs : List V} {ds : List PyData} {i : Nat} {v : V}, FdAll K H n vs ds → vs[i]? = some v → ∃ d, ds[i]? = some d ∧ Fd K H n v d
  | _, _, _, i, v, .nil, h => by simp at h
  | _, _, _, 0, v, .cons h _, e => by cases e; exact ⟨_, rfl, h⟩
  | _, _, _, i + 1, v, .cons _ t, e => FdAll.at (i := i) t e
theorem FdAll.at' : ∀ {n : Nat} {vs : List V} {ds : List PyData} {i : Nat} {d : PyData}, FdAll K H n vs ds → ds[i]? = some d → ∃ v, vs[i]? = some v ∧ Fd K H n v d
  | _, _, _, i, v, .nil, h => by simp at h
  | _, _, _, 0, v, .cons h _, e => by cases e; exact ⟨_, rfl, h⟩
  | _, _, _, i + 1, v, .cons _ t, e => FdAll.at' (i := i) t e
theorem FdAll.atm {α : Type} {f : α → PyData} {xs : List α} {vs : List V} {i : Nat} {v : V} (h : FdAll K H n vs (xs.map f)) (e : vs[i]? = some v) : ∃ x, xs[i]? = some x ∧ Fd K H n v (f x) := by
  obtain ⟨d, hd, hf⟩ := h.at e
  rw [List.getElem?_map] at hd
  obtain ⟨x, hx, rfl⟩ := Option.map_eq_some_iff.mp hd
  exact ⟨x, hx, hf⟩
theorem FdAll.atm' {α : Type} {f : α → PyData} {xs : List α} {vs : List V} {i : Nat} {x : α} (h : FdAll K H n vs (xs.map f)) (e : xs[i]? = some x) : ∃ v, vs[i]? = some v ∧ Fd K H n v (f x) :=
  h.at' (by rw [List.getElem?_map, e]; rfl)
theorem FdAll.app : ∀ {n : Nat} {vs ws : List V} {ds es : List PyData}, FdAll K H n vs ds → FdAll K H n ws es → FdAll K H n (vs ++ ws) (ds ++ es)
  | _, _, _, _, _, .nil, h => h
  | _, _, _, _, _, .cons h t, r => .cons h (FdAll.app t r)
theorem FdAll.one {v : V} {d : PyData} (h : Fd K H n v d) : FdAll K H n [v] [d] := .cons h .nil
theorem FdAll.snoc {v : V} {d : PyData} {vs : List V} {ds : List PyData} (t : FdAll K H n vs ds) (h : Fd K H n v d) : FdAll K H n (vs ++ [v]) (ds ++ [d]) := t.app (.one h)
theorem FdAll.strs : ∀ {n : Nat} {vs : List V} {ss : List Str}, FdAll K H n vs (ss.map .str) → vs = ss.map V.str
  | _, _, [], .nil => rfl
  | _, _, s :: ss, .cons h t => by cases h; rw [List.map_cons, FdAll.strs t]
theorem FdAll.ints : ∀ {n : Nat} {vs : List V} {ss : List Int}, FdAll K H n vs (ss.map .int) → vs = ss.map V.int
  | _, _, [], .nil => rfl
  | _, _, s :: ss, .cons h t => by cases h; rw [List.map_cons, FdAll.ints t]
theorem fd_strs : ∀ (ss : List Str), FdAll K H n (ss.map V.str) (ss.map .str)
  | [] => .nil
  | s :: ss => .cons (.str s) (fd_strs ss)
theorem fd_ints : ∀ (ss : List Int), FdAll K H n (ss.map V.int) (ss.map .int)
  | [] => .nil
  | s :: ss => .cons (.int s) (fd_ints ss)
theorem Fd.tup_inv {v : V} {ds : List PyData} (h : Fd K H (n + 1) v (.tuple ds)) : ∃ a xs, v = .ref a ∧ SqT K H a xs ∧ FdAll K H n xs ds := by
  cases h with
  | tup r t => exact ⟨_, _, rfl, r, t⟩
theorem Fd.two {v : V} {d e : PyData} (h : Fd K H (n + 1) v (.tuple [d, e])) : ∃ a x y, v = .ref a ∧ SqT K H a [x, y] ∧ Fd K H n x d ∧ Fd K H n y e := by
  obtain ⟨a, xs, rfl, hs, ha⟩ := h.tup_inv
  cases ha with
  | cons h1 r => cases r with
    | cons h2 r => cases r; exact ⟨a, _, _, rfl, hs, h1, h2⟩
theorem Fd.three {v : V} {d e f : PyData} (h : Fd K H (n + 1) v (.tuple [d, e, f])) : ∃ a x y z, v = .ref a ∧ SqT K H a [x, y, z] ∧ Fd K H n x d ∧ Fd K H n y e ∧ Fd K H n z f := by
  obtain ⟨a, xs, rfl, hs, ha⟩ := h.tup_inv
  cases ha with
  | cons h1 r => cases r with
    | cons h2 r => cases r with
      | cons h3 r => cases r; exact ⟨a, _, _, _, rfl, hs, h1, h2, h3⟩
theorem Fd.str_inv {v : V} {s : Str} (h : Fd K H n v (.str s)) : v = .str s := by cases h; rfl
theorem Fd.int_inv {v : V} {s : Int} (h : Fd K H n v (.int s)) : v = .int s := by cases h; rfl
theorem FdAll.take {vs : List V} : ∀ {n : Nat} {vs : List V} {ds : List PyData} (i : Nat), FdAll K H n vs ds → FdAll K H n (vs.take i) (ds.take i)
  | _, _, _, _, .nil => by simp; exact .nil
  | _, _, _, 0, .cons _ _ => .nil
  | _, _, _, i + 1, .cons h t => .cons h (FdAll.take (vs := vs) i t)
end
/-! rows, pairs, names -/
def prD (p : Str × Int) : PyData := .tuple [.str p.1, .int p.2]
def prsD (ps : List (Str × Int)) : PyData := .tuple (ps.map prD)
def rowD (r : List Int) : PyData := .tuple (r.map .int)
def nmD (ns : List Str) : PyData := .tuple (ns.map .str)
/-! lists under way: an own list at D, everything else as at H1 -/
structure PvF (A : List Addr) (K : PySem.W.Frag) (lev : Nat) (H1 : Hp) (D : Addr) (f : List PyData) (H : Hp) : Prop where
  ex : ∃ acc, H D = some (.lst acc) ∧ FdAll K H lev acc f
  kp : Kp A H1 H
section
variable {A B : List Addr} {K : PySem.W.Frag} {H1 H2 H H' : Hp} {lev : Nat} {D : Addr} {f : List PyData} {d : PyData} {y : V}
theorem pvF_0 (hD : H1 D = none) : PvF A K lev H1 D [] (upd H1 D (.lst [])) := ⟨⟨[], upd_same, .nil⟩, Kp.new hD⟩
theorem PvF.to {g : List PyData} (h : PvF A K lev H1 D f H) (e : f = g) : PvF A K lev H1 D g H := e ▸ h
theorem PvF.skip (h : PvF A K lev H1 D f H) (k : Kp A H H') (n : D ∉ A) : PvF A K lev H1 D f H' := by
  obtain ⟨⟨acc, h1, h2⟩, h3⟩ := h
  exact ⟨⟨acc, k.get h1 (.inl n), h2.kp k⟩, h3.trans k⟩
theorem PvF.step (h : PvF A K lev H1 D f H) (k : Kp A H H') (n : D ∉ A) (hD : H1 D = none) (hl : f.length < 90000) (hy : Fd K H' lev y d) : ∃ acc, H' D = some (.lst acc) ∧ acc.length < sizeLine ∧ PvF A K lev H1 D (f ++ [d]) (upd H' D (.lst (acc ++ [y]))) := by
  obtain ⟨⟨acc, h1, h2⟩, h3⟩ := h
  have h4 := k.get h1 (.inl n)
  have ko : Kp [D] H' (upd H' D (.lst (acc ++ [y]))) := Kp.own h4 rfl (by simp)
  refine ⟨acc, h4, szl (by rw [h2.length]; omega), ⟨_, upd_same, (h2.kp (k)).kp ko |>.snoc (hy.kp ko)⟩, (h3.trans k).put hD⟩
/-- several at once -/
theorem PvF.ext {g : List PyData} {ys : List V} (h : PvF A K lev H1 D f H) (k : Kp A H H') (n : D ∉ A) (hD : H1 D = none) (hl : f.length + g.length < 90000) (hy : FdAll K H' lev ys g) : ∃ acc, H' D = some (.lst acc) ∧ acc.length + ys.length ≤ sizeLine ∧ PvF A K lev H1 D (f ++ g) (upd H' D (.lst (acc ++ ys))) := by
  obtain ⟨⟨acc, h1, h2⟩, h3⟩ := h
  have h4 := k.get h1 (.inl n)
  have ko : Kp [D] H' (upd H' D (.lst (acc ++ ys))) := Kp.own h4 rfl (by simp)
  refine ⟨acc, h4, sz (by rw [h2.length, hy.length]; omega), ⟨_, upd_same, (h2.kp (k)).kp ko |>.app (hy.kp ko)⟩, (h3.trans k).put hD⟩
end
section
variable {α β : Type} {xs : List α} {i : Nat} {x : α} {p : α → Bool} {g : α → β} {h : α → List β}
theorem tk_map (e : xs[i]? = some x) : (xs.take (i + 1)).map g = (xs.take i).map g ++ [g x] := by
  rw [List.take_add_one, e, List.map_append]; rfl
theorem tk_filT (e : xs[i]? = some x) (hp : p x = true) : ((xs.take (i + 1)).filter p).map g = ((xs.take i).filter p).map g ++ [g x] := by
  rw [List.take_add_one, e, List.filter_append, List.map_append]; simp [hp]
theorem tk_filF (e : xs[i]? = some x) (hp : p x = false) : ((xs.take (i + 1)).filter p).map g = ((xs.take i).filter p).map g := by
  rw [List.take_add_one, e, List.filter_append, List.map_append]; simp [hp]
theorem tk_flat (e : xs[i]? = some x) : (xs.take (i + 1)).flatMap h = (xs.take i).flatMap h ++ h x := by
  rw [List.take_add_one, e, List.flatMap_append]; simp
theorem tk_any {q : α → Bool} (e : xs[i]? = some x) : (xs.take (i + 1)).any q = ((xs.take i).any q || q x) := by
  rw [List.take_add_one, e, List.any_append]; simp
theorem tk_len (i : Nat) : ((xs.take i).map g).length ≤ xs.length := by
  rw [List.length_map, List.length_take]; omega
theorem tk_filLen (i : Nat) : (((xs.take i).filter p).map g).length ≤ xs.length := by
  have h1 := List.length_filter_le p (xs.take i)
  rw [List.length_map]
  rw [List.length_take] at h1; omega
theorem all_at (h : ∀ x ∈ xs, p x = true) (e : xs[i]? = some x) : p x = true := h x (List.mem_of_getElem? e)
end
theorem prD_inv {K : PySem.W.Frag} {H : Hp} {n : Nat} {v : V} {p : Str × Int} (h : Fd K H (n + 1) v (prD p)) : ∃ a, v = .ref a ∧ SqT K H a [.str p.1, .int p.2] := by
  obtain ⟨a, x, y, rfl, hs, h1, h2⟩ := h.two
  rw [h1.str_inv, h2.int_inv] at hs
  exact ⟨a, rfl, hs⟩
theorem rowD_inv {K : PySem.W.Frag} {H : Hp} {n : Nat} {v : V} {r : List Int} (h : Fd K H (n + 1) v (rowD r)) : ∃ a, v = .ref a ∧ SqT K H a (r.map V.int) := by
  obtain ⟨a, xs, rfl, hs, ha⟩ := h.tup_inv
  rw [ha.ints] at hs
  exact ⟨a, rfl, hs⟩
theorem nmD_inv {K : PySem.W.Frag} {H : Hp} {n : Nat} {v : V} {r : List Str} (h : Fd K H (n + 1) v (nmD r)) : ∃ a, v = .ref a ∧ SqT K H a (r.map V.str) := by
  obtain ⟨a, xs, rfl, hs, ha⟩ := h.tup_inv
  rw [ha.strs] at hs
  exact ⟨a, rfl, hs⟩
theorem atI_nat' {xs : List V} {n : Nat} {v : V} {i : Int} (h : xs[n]? = some v) (e : i = (n : Int)) : atI xs i = some v := e ▸ atI_nat h
theorem tyx_tup {K : PySem.W.Frag} {H : Hp} {a : Addr} {xs : List V} (h : SqT K H a xs) : TyX K H (.ref a) (.type "tuple") := by
  rcases h with (h | ⟨z, h⟩) | h
  · exact .base (.tup h)
  · exact .fTuple h
  · obtain ⟨o, its, n, h1, h2, _⟩ := h
    exact .kTuple h1 h2
theorem catA {K : PySem.W.Frag} {a b : Addr} {xs ys : List V} {H : Hp} {Q : VK} (ha : SqT K H a xs) (hb : SqT K H b ys) (hl : xs.length + ys.length ≤ 100000) (q : ∀ t H', Kp [] H H' → SqT K H' t (xs ++ ys) → Q (.ref t) H') : rCatA K (.ref a) (.ref b) H Q :=
  ⟨a, b, xs, ys, rfl, rfl, ha, hb, sz hl, fun e => q b H Kp.refl (by rw [e]; exact hb), fun _ e => q a H Kp.refl (by rw [e, List.append_nil]; exact ha), fun _ _ p hp => q p _ (Kp.new hp) (SqT.of upd_same)⟩
theorem row_fd {K : PySem.W.Frag} {H : Hp} {n : Nat} {a : Addr} {r : List Int} (h : SqT K H a (r.map V.int)) : Fd K H (n + 1) (.ref a) (rowD r) := .tup h (fd_ints r)
theorem nm_fd {K : PySem.W.Frag} {H : Hp} {n : Nat} {a : Addr} {r : List Str} (h : SqT K H a (r.map V.str)) : Fd K H (n + 1) (.ref a) (nmD r) := .tup h (fd_strs r)
theorem pr_fd {K : PySem.W.Frag} {H : Hp} {n : Nat} {a : Addr} {s : Str} {i : Int} (h : SqT K H a [.str s, .int i]) : Fd K H (n + 1) (.ref a) (prD (s, i)) := .tup h (.cons (.str _) (.cons (.int _) .nil))
theorem cut_strs (ns : List Str) (lo hi : Option Int) : ∃ ms : List Str, cutV (ns.map V.str) lo hi = ms.map V.str ∧ ms.Sublist ns := by
  refine ⟨(ns.drop (HT.sIx (ns.map V.str).length 0 lo)).take (HT.sIx (ns.map V.str).length (ns.map V.str).length hi - HT.sIx (ns.map V.str).length 0 lo), ?_, (List.take_sublist _ _).trans (List.drop_sublist _ _)⟩
  unfold cutV
  rw [List.map_take, List.map_drop]
theorem ne_src {H : Hp} {p s : Addr} (h : Src H s) (hp : H p = none) : p ≠ s := fun e => by
  subst e
  obtain ⟨_, _, e⟩ := h
  rw [hp] at e; cases e
theorem sq_var {K : PySem.W.Frag} {σ : L2.St} {H : Hp} {i : Nat} {a : Addr} {xs : List V} {R : It → Hp → Prop} (hv : σ[i]? = some (some (.ref a))) (hs : Sq K H a xs)
    (h : ∀ J G, (∀ A H', a ∉ A → Kp A H H' → G H') → Walk J xs.length G (YAt xs) → R J H) : iList K (tVar i) σ H R ∨ iTup K (tVar i) σ H R :=
  hs.elim (fun s => .inl ⟨_, hv, a, rfl, ⟨_, s⟩, h _ (fun H' => SqL K H' a xs) (fun _ _ n k => k.sqL n s) walk_list⟩) fun s => .inr ⟨_, hv, a, rfl, ⟨_, s⟩, h _ (fun H' => SqT K H' a xs) (fun _ _ _ k => k.sqT s) walk_tup⟩
theorem sq_var2 {K : PySem.W.Frag} {σ : L2.St} {H0 H : Hp} {i : Nat} {a : Addr} {xs : List V} {R : It → Hp → Prop} (hv : σ[i]? = some (some (.ref a))) (k0 : Kp [] H0 H) (hs : Sq K H0 a xs)
    (h : ∀ J G, (∀ H', Kp [] H0 H' → G H') → Walk J xs.length G (YAt xs) → R J H) : iList K (tVar i) σ H R ∨ iTup K (tVar i) σ H R :=
  hs.elim (fun s => .inl ⟨_, hv, a, rfl, ⟨_, k0.sqL List.not_mem_nil s⟩, h _ (fun H' => SqL K H' a xs) (fun _ k => k.sqL List.not_mem_nil s) walk_list⟩) fun s => .inr ⟨_, hv, a, rfl, ⟨_, k0.sqT s⟩, h _ (fun H' => SqT K H' a xs) (fun _ k => k.sqT s) walk_tup⟩
theorem op_fdivX {X : Cx} : OpR X (binaryOp .FloorDiv) (rI (fun _ j => j ≠ 0 ∧ j.natAbs.log2 < 9000) fun i j => .int (i.fdiv j)) := opI fun _ _ _ _ _ _ _ hc q => floordiv_int hc.1 q (.inl (PyProof.noPylong_of_log2 hc.2))
/-! ratios -/
def sg (t b : Int) : Int := if b < 0 then -((Nat.gcd t.natAbs b.natAbs : Nat) : Int) else ((Nat.gcd t.natAbs b.natAbs : Nat) : Int)
def lowQ (t b : Int) : List Int := [t.fdiv (sg t b), b.fdiv (sg t b)]
/-- small enough: fewer than 2 ^ n -/
def Sm (n : Nat) (i : Int) : Prop := i.natAbs < 2 ^ n
theorem Sm.le {n m : Nat} {i : Int} (h : Sm n i) (k : n ≤ m) : Sm m i := Nat.lt_of_lt_of_le h (Nat.pow_le_pow_right (by decide) k)
theorem Sm.mul {n m : Nat} {i j : Int} (h : Sm n i) (k : Sm m j) : Sm (n + m) (i * j) := wide_lt h k
theorem Sm.add {n : Nat} {i j : Int} (h : Sm n i) (k : Sm n j) : Sm (n + 1) (i + j) := by
  unfold Sm at *
  rw [Nat.pow_succ]; omega
theorem Sm.neg {n : Nat} {i : Int} (h : Sm n i) : Sm n (-i) := by unfold Sm at *; omega
theorem Sm.cmul {n m : Nat} {i j : Int} (h : Sm n i) (k : Sm m j) (hn : 0 < n) (hm : 0 < m) (l : n + m ≤ 1000000) : CMulW i j := wide_mul h k hn hm l
theorem Sm.nat {n : Nat} {i : Int} (h : i.natAbs ≤ n) (k : n < 2 ^ n) : Sm n i := Nat.lt_of_le_of_lt h k
theorem gcd_pos {t b : Int} (h : b ≠ 0) : 0 < Nat.gcd t.natAbs b.natAbs := Nat.gcd_pos_of_pos_right _ (by omega)
theorem sg_ne {t b : Int} (h : b ≠ 0) : sg t b ≠ 0 := by
  have := gcd_pos (t := t) h
  unfold sg; split <;> omega
theorem sg_abs (t b : Int) : (sg t b).natAbs = Nat.gcd t.natAbs b.natAbs := by
  unfold sg; split <;> omega
theorem sg_log {t b : Int} (h : b ≠ 0) {n : Nat} (hn : 0 < n) (hb : Sm n b) (h9 : n ≤ 9000) : (sg t b).natAbs.log2 < 9000 := by
  have h1 : Nat.gcd t.natAbs b.natAbs ≤ b.natAbs := Nat.le_of_dvd (by omega) (Nat.gcd_dvd_right _ _)
  have h2 : (sg t b).natAbs < 2 ^ n := by rw [sg_abs]; exact Nat.lt_of_le_of_lt h1 hb
  exact Nat.lt_of_lt_of_le (PySem.Flt.log2_lt_of hn h2) h9
theorem fdiv_le {t g : Int} (h : g ∣ t) (hg : g ≠ 0) : (t.fdiv g).natAbs ≤ t.natAbs := by
  obtain ⟨k, rfl⟩ := h
  rw [Int.mul_fdiv_cancel_left _ hg, Int.natAbs_mul]
  exact Nat.le_mul_of_pos_left _ (by omega)
theorem sg_dl (t b : Int) : sg t b ∣ t := Int.natAbs_dvd.mp (by rw [sg_abs]; exact Int.ofNat_dvd_left.mpr (Nat.gcd_dvd_left _ _))
theorem sg_dr (t b : Int) : sg t b ∣ b := Int.natAbs_dvd.mp (by rw [sg_abs]; exact Int.ofNat_dvd_left.mpr (Nat.gcd_dvd_right _ _))
/-! Euclid in 600 steps -/
theorem euc_step {a b : Nat} (h : b ≠ 0) : Nat.gcd a b = Nat.gcd b (a % b) := by
  rw [Nat.gcd_comm a b, Nat.gcd_rec b a, Nat.gcd_comm]
/-- after a turn the product is at most half -/
theorem euc_half {a b : Nat} (h : b ≠ 0) (ab : b ≤ a) : 2 * (b * (a % b)) ≤ a * b := by
  have h1 : a % b < b := Nat.mod_lt _ (by omega)
  have h2 := Nat.div_add_mod a b
  have h3 : 1 ≤ a / b := Nat.div_pos ab (by omega)
  have h4 : b * 1 ≤ b * (a / b) := Nat.mul_le_mul_left b h3
  have h5 : 2 * (a % b) ≤ a := by omega
  calc 2 * (b * (a % b)) = b * (2 * (a % b)) := by rw [Nat.mul_left_comm]
    _ ≤ b * a := Nat.mul_le_mul_left b h5
    _ = a * b := Nat.mul_comm _ _
/-! sums by names -/
def poolS : List Str := ["a", "a1", "ab", "b", "c.d"]
def wsum (ts : List (Str × Int)) (φ : Str → Int) : Int := (ts.map fun p => p.2 * φ p.1).sum
def ind (n : Str) : Str → Int := fun m => if m = n then 1 else 0
def sumN (ts : List (Str × Int)) (n : Str) : Int := wsum ts (ind n)
def trm (f : Str → Int) : List (Str × Int) := (poolS.filter fun n => decide (f n ≠ 0)).map fun n => (n, f n)
def inP (ts : List (Str × Int)) : Prop := ∀ p ∈ ts, p.1 ∈ poolS
theorem wsum_nil (φ : Str → Int) : wsum [] φ = 0 := rfl
theorem wsum_cons (p : Str × Int) (ts : List (Str × Int)) (φ : Str → Int) : wsum (p :: ts) φ = p.2 * φ p.1 + wsum ts φ := rfl
theorem wsum_app (ts us : List (Str × Int)) (φ : Str → Int) : wsum (ts ++ us) φ = wsum ts φ + wsum us φ := by
  unfold wsum; rw [List.map_append, List.sum_append]
theorem poolS_nd : poolS.Nodup := by decide +kernel
theorem poolS_asc : Asc poolS := by
  unfold Asc poolS
  decide +kernel
/-- Σ over the pool -/
def psum (f : Str → Int) : Int := (poolS.map f).sum
theorem sum_ind : ∀ {l : List Str} {m : Str} (c : Int) (φ : Str → Int), l.Nodup → m ∈ l → (l.map fun n => (c * ind n m) * φ n).sum = c * φ m
  | [], _, _, _, _, h => nomatch h
  | x :: l, m, c, φ, nd, h => by
    have n := List.nodup_cons.mp nd
    rw [List.map_cons, List.sum_cons]
    by_cases e : x = m
    · subst e
      have z : (l.map fun n => (c * ind n x) * φ n).sum = 0 := by
        have : ∀ k : List Str, x ∉ k → (k.map fun n => (c * ind n x) * φ n).sum = 0 := by
          intro k hk
          induction k with
          | nil => rfl
          | cons y k ih =>
            rw [List.map_cons, List.sum_cons, ih fun q => hk (List.mem_cons_of_mem _ q)]
            have : x ≠ y := fun q => hk (by rw [q]; exact List.mem_cons_self ..)
            simp [ind, this]
        exact this l n.1
      rw [z]; simp [ind]
    · have hm : m ∈ l := (List.mem_cons.mp h).resolve_left fun q => e q.symm
      have : m ≠ x := fun q => e q.symm
      rw [sum_ind c φ n.2 hm]; simp [ind, this]
theorem psum_add (f g : Str → Int) : psum (fun n => f n + g n) = psum f + psum g := by
  unfold psum
  induction poolS with
  | nil => rfl
  | cons x l ih => rw [List.map_cons, List.sum_cons, ih, List.map_cons, List.map_cons, List.sum_cons, List.sum_cons]; omega
/-- a weighted sum, name by name -/
theorem wsum_pool : ∀ {ts : List (Str × Int)}, inP ts → ∀ φ : Str → Int, wsum ts φ = psum fun n => sumN ts n * φ n
  | [], _, φ => by
    have : ∀ l : List Str, (l.map fun n => sumN [] n * φ n).sum = 0 := by
      intro l
      induction l with
      | nil => rfl
      | cons x l ih => rw [List.map_cons, List.sum_cons, ih]; simp [sumN, wsum]
    exact (this poolS).symm
  | p :: ts, h, φ => by
    rw [wsum_cons, wsum_pool (ts := ts) (fun x hx => h x (List.mem_cons_of_mem _ hx)) φ]
    have e : (fun n => sumN (p :: ts) n * φ n) = fun n => (p.2 * ind n p.1) * φ n + sumN ts n * φ n := by
      funext n
      rw [sumN, wsum_cons, Int.add_mul]; rfl
    rw [e, psum_add]
    unfold psum
    rw [sum_ind p.2 φ poolS_nd (h p (List.mem_cons_self ..))]
theorem trm_inP (f : Str → Int) : inP (trm f) := fun p hp => by
  obtain ⟨n, hn, rfl⟩ := List.mem_map.mp hp
  exact (List.mem_filter.mp hn).1
theorem wsum_trm (f φ : Str → Int) : wsum (trm f) φ = psum fun n => f n * φ n := by
  unfold wsum trm psum
  induction poolS with
  | nil => rfl
  | cons x l ih =>
    rw [List.map_cons, List.sum_cons, ← ih, List.filter_cons]
    by_cases e : f x = 0
    · simp [e]
    · simp [e]
/-- what the terms weigh is what the pairs weigh -/
theorem wsum_red {ts : List (Str × Int)} (h : inP ts) (φ : Str → Int) : wsum (trm (sumN ts)) φ = wsum ts φ := by rw [wsum_trm, wsum_pool h]
theorem sumN_trm {f : Str → Int} {n : Str} (h : n ∈ poolS) : sumN (trm f) n = f n := by
  rw [sumN, wsum_trm]
  unfold psum
  have := sum_ind (l := poolS) (m := n) 1 f poolS_nd h
  rw [Int.one_mul] at this
  rw [← this]
  congr 1
  apply List.map_congr_left
  intro m _
  simp only [ind, Int.one_mul]
  by_cases e : m = n
  · subst e; simp
  · have e' : n ≠ m := fun q => e q.symm
    simp [e, e']
theorem trm_congr {f g : Str → Int} (h : ∀ n ∈ poolS, f n = g n) : trm f = trm g := by
  unfold trm
  have e1 : poolS.filter (fun n => decide (f n ≠ 0)) = poolS.filter fun n => decide (g n ≠ 0) := List.filter_congr fun n hn => by rw [h n hn]
  rw [e1]
  exact List.map_congr_left fun n hn => by rw [h n (List.mem_filter.mp hn).1]
theorem trm_len (f : Str → Int) : (trm f).length ≤ 5 := by
  unfold trm
  rw [List.length_map]
  exact List.length_filter_le _ _
/-! objects -/
structure SumAt (K : PySem.W.Frag) (C : Addr) (H : Hp) (x : Addr) (f : Str → Int) : Prop where
  ex : ∃ dx t, H x = some (.ins C dx [("terms", .ref t)]) ∧ Fd K H 2 (.ref t) (prsD (trm f))
def sumC (C a : Addr) (H : Hp) (t : Addr) : Prop := ∃ dx, H a = some (.ins C dx [("terms", .ref t)])
theorem SumAt.kp {A : List Addr} {K : PySem.W.Frag} {C : Addr} {H H' : Hp} {x : Addr} {f : Str → Int} (h : SumAt K C H x f) (k : Kp A H H') (n : x ∉ A) : SumAt K C H' x f := by
  obtain ⟨dx, t, h1, h2⟩ := h.ex
  exact ⟨dx, t, k.get h1 (.inl n), h2.kp k⟩
def prQ (q : Int × Int) : PyData := rowD [q.1, q.2]
def lowP (t b : Int) : Int × Int := (t.fdiv (sg t b), b.fdiv (sg t b))
def tot (qs : List (Int × Int)) : Int × Int := qs.foldl (fun a q => (a.1 * q.2 + q.1 * a.2, a.2 * q.2)) (0, 1)
structure GQ (q : Int × Int) : Prop where
  t : Sm 300 q.1
  b : Sm 300 q.2
  p : 0 < q.2
def gQs (qs : List (Int × Int)) : Prop := qs.length ≤ 6 ∧ ∀ q ∈ qs, GQ q
theorem tot_take {qs : List (Int × Int)} {i : Nat} {q : Int × Int} (h : qs[i]? = some q) : tot (qs.take (i + 1)) = ((tot (qs.take i)).1 * q.2 + q.1 * (tot (qs.take i)).2, (tot (qs.take i)).2 * q.2) := by
  unfold tot
  rw [List.take_add_one, h, List.foldl_append]; rfl
theorem tot_ok {qs : List (Int × Int)} (h : ∀ q ∈ qs, GQ q) : ∀ i, Sm (400 * (i + 1)) (tot (qs.take i)).1 ∧ Sm (400 * (i + 1)) (tot (qs.take i)).2 ∧ 0 < (tot (qs.take i)).2
  | 0 => by
    rw [List.take_zero]
    exact ⟨Nat.two_pow_pos _, by unfold Sm tot; show 1 < _; exact Nat.lt_of_lt_of_le (by decide : 1 < 2 ^ 1) (Nat.pow_le_pow_right (by decide) (by omega)), by unfold tot; decide⟩
  | i + 1 => by
    obtain ⟨h1, h2, h3⟩ := tot_ok h i
    cases e : qs[i]? with
    | none =>
      rw [List.take_add_one, e, Option.toList_none, List.append_nil]
      exact ⟨h1.le (by omega), h2.le (by omega), h3⟩
    | some q =>
      have g := h q (List.mem_of_getElem? e)
      rw [tot_take e]
      refine ⟨?_, (h2.mul g.b).le (by omega), Int.mul_pos h3 g.p⟩
      exact ((h1.mul g.b).add ((g.t.mul h2).le (by omega))).le (by omega)
theorem sg_pos {t b : Int} (h : 0 < b) : 0 < sg t b := by
  have := gcd_pos (t := t) (b := b) (by omega)
  unfold sg; rw [if_neg (by omega)]; omega
theorem lowP_sm {t b : Int} {n m : Nat} (hb : b ≠ 0) (h1 : Sm n t) (h2 : Sm m b) : Sm n (lowP t b).1 ∧ Sm m (lowP t b).2 :=
  ⟨Nat.lt_of_le_of_lt (fdiv_le (sg_dl t b) (sg_ne hb)) h1, Nat.lt_of_le_of_lt (fdiv_le (sg_dr t b) (sg_ne hb)) h2⟩
theorem lowP_pos {t b : Int} (hb : 0 < b) : 0 < (lowP t b).2 := by
  have g := sg_pos (t := t) hb
  obtain ⟨k, e⟩ := sg_dr t b
  show 0 < b.fdiv (sg t b)
  have e2 : b.fdiv (sg t b) = k := by
    conv => lhs; arg 1; rw [e]
    exact Int.mul_fdiv_cancel_left _ (by omega)
  rw [e2]
  rw [e] at hb
  exact Int.pos_of_mul_pos_right hb g |> fun h => h
theorem lowP_gq {t b : Int} (hb : 0 < b) (h1 : Sm 300 t) (h2 : Sm 300 b) : GQ (lowP t b) := ⟨(lowP_sm (by omega) h1 h2).1, (lowP_sm (by omega) h1 h2).2, lowP_pos hb⟩
theorem prQ_inv {K : PySem.W.Frag} {H : Hp} {n : Nat} {v : V} {q : Int × Int} (h : Fd K H (n + 1) v (prQ q)) : ∃ a, v = .ref a ∧ SqT K H a [.int q.1, .int q.2] := rowD_inv (r := [q.1, q.2]) h
theorem prQ_fd {K : PySem.W.Frag} {H : Hp} {n : Nat} {a : Addr} {q : Int × Int} (h : SqT K H a [.int q.1, .int q.2]) : Fd K H (n + 1) (.ref a) (prQ q) := row_fd (r := [q.1, q.2]) h
theorem sumN_take {ts : List (Str × Int)} {i : Nat} {p : Str × Int} (h : ts[i]? = some p) (n : Str) : sumN (ts.take (i + 1)) n = sumN (ts.take i) n + p.2 * ind n p.1 := by
  rw [List.take_add_one, h, Option.toList_some, sumN, wsum_app, wsum_cons, wsum_nil]
  unfold sumN; omega
theorem sumN_out {ts : List (Str × Int)} {n : Str} (h : n ∉ ts.map (·.1)) : sumN ts n = 0 := by
  induction ts with
  | nil => rfl
  | cons p ts ih =>
    rw [List.map_cons, List.mem_cons, not_or] at h
    rw [sumN, wsum_cons, show wsum ts (ind n) = sumN ts n from rfl, ih h.2]
    have : ¬ p.1 = n := fun e => h.1 e.symm
    simp [ind, this]
/-- the names that are there, in order -/
theorem names_pool {ys : List Str} {ts : List (Str × Int)} (asc : Asc ys) (mem : ∀ x, x ∈ ys ↔ x ∈ ts.map (·.1)) (h : inP ts) : (ys.filter fun n => decide (sumN ts n ≠ 0)) = poolS.filter fun n => decide (sumN ts n ≠ 0) := by
  refine Asc.ext (asc.sublist List.filter_sublist) (poolS_asc.sublist List.filter_sublist) fun x => ?_
  rw [List.mem_filter, List.mem_filter]
  constructor
  · rintro ⟨hx, c⟩
    obtain ⟨p, hp, rfl⟩ := List.mem_map.mp ((mem x).mp hx)
    exact ⟨h p hp, c⟩
  · rintro ⟨_, c⟩
    refine ⟨(mem x).mpr ?_, c⟩
    by_cases e : x ∈ ts.map (·.1)
    · exact e
    · rw [sumN_out e] at c
      simp at c
theorem inP_app {ts us : List (Str × Int)} (h : inP ts) (k : inP us) : inP (ts ++ us) := fun p hp => (List.mem_append.mp hp).elim (h p) (k p)
theorem inP_map {ts : List (Str × Int)} (h : inP ts) (g : Str × Int → Int) : inP (ts.map fun p => (p.1, g p)) := fun p hp => by
  obtain ⟨r, hr, rfl⟩ := List.mem_map.mp hp
  exact h r hr
theorem sumN_scale {ts : List (Str × Int)} (c : Int) (n : Str) : sumN (ts.map fun p => (p.1, p.2 * c)) n = sumN ts n * c := by
  unfold sumN wsum
  induction ts with
  | nil => simp
  | cons p ts ih =>
    simp only [List.map_cons, List.sum_cons] at ih ⊢
    rw [ih, Int.add_mul, Int.mul_right_comm]
theorem sumN_neg {ts : List (Str × Int)} (n : Str) : sumN (ts.map fun p => (p.1, -p.2)) n = - sumN ts n := by
  unfold sumN wsum
  induction ts with
  | nil => simp
  | cons p ts ih =>
    simp only [List.map_cons, List.sum_cons] at ih ⊢
    rw [ih, Int.neg_mul, Int.neg_add]
theorem SumAt.congr {K : PySem.W.Frag} {C : Addr} {H : Hp} {x : Addr} {f g : Str → Int} (h : SumAt K C H x f) (e : ∀ n ∈ poolS, f n = g n) : SumAt K C H x g := ⟨by rw [← trm_congr e]; exact h.ex⟩
theorem pr_atm {ts : List (Str × Int)} {i : Nat} {p : Str × Int} (h : ts[i]? = some p) (g : inP ts) : p.1 ∈ poolS := g p (List.mem_of_getElem? h)
theorem trm_f {f : Str → Int} {p : Str × Int} (h : p ∈ trm f) : p.2 = f p.1 := by
  obtain ⟨m, hm, rfl⟩ := List.mem_map.mp h
  rfl
theorem Sm.prod {x y : Int} {n m : Nat} (h1 : Sm n x) (h2 : Sm m y) (k : n + m ≤ 590) : x.natAbs * y.natAbs < 2 ^ 590 :=
  Nat.lt_of_lt_of_le (Nat.mul_lt_mul'' h1 h2) (by rw [← Nat.pow_add]; exact Nat.pow_le_pow_right (by decide) k)
/-- totals of smaller parts -/
theorem tot_fine {qs : List (Int × Int)} (h : ∀ q ∈ qs, Sm 90 q.1 ∧ Sm 42 q.2 ∧ 0 < q.2) : ∀ i, Sm (90 + 43 * i) (tot (qs.take i)).1 ∧ Sm (42 * i + 1) (tot (qs.take i)).2 ∧ 0 < (tot (qs.take i)).2
  | 0 => by
    rw [List.take_zero]
    exact ⟨Nat.two_pow_pos _, by unfold Sm tot; decide, by unfold tot; decide⟩
  | i + 1 => by
    obtain ⟨h1, h2, h3⟩ := tot_fine h i
    cases e : qs[i]? with
    | none =>
      rw [List.take_add_one, e, Option.toList_none, List.append_nil]
      exact ⟨h1.le (by omega), h2.le (by omega), h3⟩
    | some q =>
      obtain ⟨g1, g2, g3⟩ := h q (List.mem_of_getElem? e)
      rw [tot_take e]
      refine ⟨?_, (h2.mul g2).le (by omega), Int.mul_pos h3 g3⟩
      exact (((h1.mul g2).le (show _ ≤ 90 + 43 * i + 42 by omega)).add ((g1.mul h2).le (by omega))).le (by omega)
theorem sumL_take {ts : List (Str × Int)} {i : Nat} {p : Str × Int} (h : ts[i]? = some p) (n : Str) : (((ts.take (i + 1)).filter fun x => decide (x.1 = n)).map (·.2)) = (((ts.take i).filter fun x => decide (x.1 = n)).map (·.2)) ++ (if p.1 = n then [p.2] else []) := by
  rw [List.take_add_one, h, Option.toList_some, List.filter_append, List.map_append]
  by_cases c : p.1 = n <;> simp [c]
theorem sumL_eq (ts : List (Str × Int)) (n : Str) : (((ts.filter fun x => decide (x.1 = n)).map (·.2))).sum = sumN ts n := by
  unfold sumN wsum
  induction ts with
  | nil => rfl
  | cons p ts ih =>
    rw [List.map_cons, List.sum_cons, ← ih, List.filter_cons]
    by_cases c : p.1 = n
    · simp [c, ind]
    · simp [c, ind]
theorem joinL {α : Type} {P : α → Hp → Prop} {goal : Prop} {G : α → Hp → Prop} (h2 : ∀ b H, P b H → G b H) (h1 : (∀ b H, P b H → G b H) → goal) : goal := h1 h2
theorem joinH {P : Hp → Prop} {goal : Prop} {G : Hp → Prop} (h2 : ∀ H, P H → G H) (h1 : (∀ H, P H → G H) → goal) : goal := h1 h2
theorem lowP_one (n : Int) : lowP n 1 = (n, 1) := by
  have : sg n 1 = 1 := by unfold sg; simp
  unfold lowP; rw [this, Int.fdiv_one, Int.fdiv_one]
theorem DQ_sm {q : Int × Int} (h : Sm 42 q.1 ∧ Sm 42 q.2 ∧ 0 < q.2) : Sm 90 q.1 ∧ Sm 42 q.2 ∧ 0 < q.2 := ⟨h.1.le (by decide), h.2⟩
theorem lst_dp {K : PySem.W.Frag} {H : Hp} {n : Nat} {a : Addr} {xs : List V} {ds : List PyData} (h : SqL K H a xs) (t : FdAll K H n xs ds) : Dp K H (.ref a) (.list ds) := .lst h t.dp
theorem lst_pln {K : PySem.W.Frag} {H : Hp} {n : Nat} {xs : List V} {ds : List PyData} (t : FdAll K H n xs ds) (hn : n ≤ 30) : pln (.list ds) := ⟨by rw [PyData.plain]; exact t.plain, by rw [PyData.depth]; have := t.depth; omega⟩
theorem sumN_scale' {ts : List (Str × Int)} (c : Int) (n : Str) : sumN (ts.map fun p => (p.1, c * p.2)) n = sumN ts n * c := by
  rw [← sumN_scale]
  congr 1
  exact List.map_congr_left fun p _ => by rw [Int.mul_comm]
theorem sumN_abs {ts : List (Str × Int)} (n : Str) (h : ∀ x ∈ ts, Sm 41 x.2) : (sumN ts n).natAbs ≤ ts.length * 2 ^ 41 := by
  induction ts with
  | nil => exact Nat.zero_le _
  | cons p ts ih =>
    have h1 := ih fun x hx => h x (List.mem_cons_of_mem _ hx)
    have h2 : p.2.natAbs < 2 ^ 41 := h p (List.mem_cons_self ..)
    rw [sumN, wsum_cons, show wsum ts (ind n) = sumN ts n from rfl, List.length_cons]
    have h3 : (p.2 * ind n p.1).natAbs ≤ p.2.natAbs := by
      unfold ind
      split <;> simp
    omega
theorem sumN_sm {ts : List (Str × Int)} (n : Str) (h : ∀ x ∈ ts, Sm 41 x.2) (l : ts.length ≤ 20) : Sm 46 (sumN ts n) := by
  have := sumN_abs n h
  unfold Sm
  omega
theorem putK_len' (c : List (Key × V)) (k : Key) (x : V) : (putK c k x).length ≤ c.length + 1 := by
  unfold putK
  split <;> simp
theorem lk_ne {a b : Str} {v : V} (h : (a == b) = false) : List.lookup a [(b, v)] = none := by rw [List.lookup_cons, h]; rfl
/-! the fraction of a pair -/
theorem low_fac {t b : Int} (hb : 0 < b) : ∃ g : Int, 0 < g ∧ t = g * (lowP t b).1 ∧ b = g * (lowP t b).2 ∧ Nat.gcd (lowP t b).1.natAbs (lowP t b).2.natAbs = 1 ∧ 0 < (lowP t b).2 := by
  have g0 := sg_pos (t := t) hb
  have ga := sg_abs t b
  have p2 := lowP_pos (t := t) hb
  obtain ⟨k, ek⟩ := sg_dl t b
  obtain ⟨l, el⟩ := sg_dr t b
  have e1 : (lowP t b).1 = k := by
    show t.fdiv (sg t b) = k
    conv => lhs; arg 1; rw [ek]
    exact Int.mul_fdiv_cancel_left _ (by omega)
  have e2 : (lowP t b).2 = l := by
    show b.fdiv (sg t b) = l
    conv => lhs; arg 1; rw [el]
    exact Int.mul_fdiv_cancel_left _ (by omega)
  rw [e1, e2]
  rw [e2] at p2
  refine ⟨sg t b, g0, ek, el, ?_, p2⟩
  have h1 : t.natAbs = (sg t b).natAbs * k.natAbs := by rw [← Int.natAbs_mul, ← ek]
  have h2 : b.natAbs = (sg t b).natAbs * l.natAbs := by rw [← Int.natAbs_mul, ← el]
  have h3 : (sg t b).natAbs = (sg t b).natAbs * Nat.gcd k.natAbs l.natAbs := by
    rw [← Nat.gcd_mul_left, ← h1, ← h2]; exact ga
  exact Nat.eq_of_mul_eq_mul_left (show 0 < (sg t b).natAbs by omega) (by rw [Nat.mul_one]; exact h3.symm)
def eqQ (q r : Int × Int) : Prop := q.1 * r.2 = r.1 * q.2
theorem low_eqQ {t b : Int} (hb : 0 < b) : eqQ (lowP t b) (t, b) := by
  obtain ⟨g, g0, e1, e2, _, _⟩ := low_fac (t := t) hb
  show (lowP t b).1 * b = t * (lowP t b).2
  generalize (lowP t b).1 = u at *
  generalize (lowP t b).2 = w at *
  rw [e1, e2, ← Int.mul_assoc, Int.mul_comm u g]
theorem cop_eq {u w u' w' : Int} (h : u * w' = u' * w) (c : Nat.gcd u.natAbs w.natAbs = 1) (c' : Nat.gcd u'.natAbs w'.natAbs = 1) (p : 0 < w) (p' : 0 < w') : u = u' ∧ w = w' := by
  have hn : u.natAbs * w'.natAbs = u'.natAbs * w.natAbs := by rw [← Int.natAbs_mul, ← Int.natAbs_mul, h]
  have d1 : w.natAbs ∣ w'.natAbs := Nat.Coprime.dvd_of_dvd_mul_left (show Nat.Coprime w.natAbs u.natAbs by rw [Nat.Coprime, Nat.gcd_comm]; exact c) ⟨u'.natAbs, by rw [hn, Nat.mul_comm]⟩
  have d2 : w'.natAbs ∣ w.natAbs := Nat.Coprime.dvd_of_dvd_mul_left (show Nat.Coprime w'.natAbs u'.natAbs by rw [Nat.Coprime, Nat.gcd_comm]; exact c') ⟨u.natAbs, by rw [← hn, Nat.mul_comm]⟩
  have e := Nat.dvd_antisymm d1 d2
  have ew : w = w' := by omega
  refine ⟨?_, ew⟩
  rw [← ew] at h
  exact Int.eq_of_mul_eq_mul_right (by omega) h
theorem low_congr {t b t' b' : Int} (hb : 0 < b) (hb' : 0 < b') (h : t * b' = t' * b) : lowP t b = lowP t' b' := by
  obtain ⟨g, g0, e1, e2, c, p⟩ := low_fac (t := t) hb
  obtain ⟨g', g0', e1', e2', c', p'⟩ := low_fac (t := t') hb'
  refine Prod.ext_iff.mpr (cop_eq ?_ c c' p p')
  generalize (lowP t b).1 = u at *
  generalize (lowP t b).2 = w at *
  generalize (lowP t' b').1 = u' at *
  generalize (lowP t' b').2 = w' at *
  rw [e1, e2, e1', e2'] at h
  have h2 : (g * g') * (u * w') = (g * g') * (u' * w) := by
    calc (g * g') * (u * w') = g * u * (g' * w') := by rw [Int.mul_assoc, Int.mul_assoc, Int.mul_left_comm g' u w']
      _ = g' * u' * (g * w) := h
      _ = (g * g') * (u' * w) := by rw [Int.mul_comm g g', Int.mul_assoc, Int.mul_assoc, Int.mul_left_comm u' g w]
  exact Int.eq_of_mul_eq_mul_left (Int.ne_of_gt (Int.mul_pos g0 g0')) h2
theorem tot_pos : ∀ (qs : List (Int × Int)) (a : Int × Int), 0 < a.2 → (∀ q ∈ qs, 0 < q.2) → 0 < (qs.foldl (fun a q => (a.1 * q.2 + q.1 * a.2, a.2 * q.2)) a).2
  | [], _, h, _ => h
  | q :: qs, a, h, hq => tot_pos qs _ (Int.mul_pos h (hq q (List.mem_cons_self ..))) fun r hr => hq r (List.mem_cons_of_mem _ hr)
theorem add_eqQ {a a' q q' : Int × Int} (h : eqQ a a') (k : eqQ q q') : eqQ (a.1 * q.2 + q.1 * a.2, a.2 * q.2) (a'.1 * q'.2 + q'.1 * a'.2, a'.2 * q'.2) := by
  obtain ⟨x, y⟩ := a
  obtain ⟨x', y'⟩ := a'
  obtain ⟨s, t⟩ := q
  obtain ⟨s', t'⟩ := q'
  show (x * t + s * y) * (y' * t') = (x' * t' + s' * y') * (y * t)
  have h' : x * y' = x' * y := h
  have k' : s * t' = s' * t := k
  rw [Int.add_mul, Int.add_mul]
  have e1 : x * t * (y' * t') = (x * y') * (t * t') := by rw [Int.mul_assoc, Int.mul_assoc, Int.mul_left_comm t y' t']
  have e2 : x' * t' * (y * t) = (x' * y) * (t * t') := by rw [Int.mul_assoc, Int.mul_assoc, Int.mul_left_comm t' y t, Int.mul_comm t' t]
  have e3 : s * y * (y' * t') = (s * t') * (y * y') := by rw [Int.mul_assoc, Int.mul_assoc, Int.mul_comm y' t', Int.mul_left_comm y t' y']
  have e4 : s' * y' * (y * t) = (s' * t) * (y * y') := by rw [Int.mul_assoc, Int.mul_assoc, Int.mul_left_comm y' y t, Int.mul_comm y' t, Int.mul_left_comm y t y']
  rw [e1, e2, e3, e4, h', k']
theorem tot_eqQ {α : Type} {f g : α → Int × Int} : ∀ (xs : List α) (a a' : Int × Int), eqQ a a' → (∀ x ∈ xs, eqQ (f x) (g x)) → eqQ ((xs.map f).foldl (fun a q => (a.1 * q.2 + q.1 * a.2, a.2 * q.2)) a) ((xs.map g).foldl (fun a q => (a.1 * q.2 + q.1 * a.2, a.2 * q.2)) a')
  | [], _, _, h, _ => h
  | x :: xs, a, a', h, hx => tot_eqQ xs _ _ (add_eqQ h (hx x (List.mem_cons_self ..))) fun y hy => hx y (List.mem_cons_of_mem _ hy)
theorem lowtot_congr {α : Type} {f g : α → Int × Int} (xs : List α) (h : ∀ x ∈ xs, eqQ (f x) (g x)) (pf : ∀ x ∈ xs, 0 < (f x).2) (pg : ∀ x ∈ xs, 0 < (g x).2) : lowP (tot (xs.map f)).1 (tot (xs.map f)).2 = lowP (tot (xs.map g)).1 (tot (xs.map g)).2 := by
  refine low_congr ?_ ?_ (tot_eqQ xs _ _ rfl h)
  · refine tot_pos _ _ (by decide) fun q hq => ?_
    obtain ⟨x, hx, rfl⟩ := List.mem_map.mp hq
    exact pf x hx
  · refine tot_pos _ _ (by decide) fun q hq => ?_
    obtain ⟨x, hx, rfl⟩ := List.mem_map.mp hq
    exact pg x hx
/-! dicts by names -/
def pool6 : List Str := ["a", "a1", "ab", "b", "c.d", "z"]
theorem pool6_asc : Asc pool6 := by
  unfold Asc pool6
  decide +kernel
theorem pool6_nd : pool6.Nodup := by decide +kernel
theorem pool6_sub {n : Str} (h : n ∈ poolS) : n ∈ pool6 := (show ∀ n ∈ poolS, n ∈ pool6 by decide +kernel) n h
def kvN (l : List Str) (f : Str → V) : List (Key × V) := l.map fun m => (Sum.inr m, f m)
theorem val_kvN (f : Str → V) (n : Str) : ∀ l : List Str, valV (kvN l f) (.inr n) = if n ∈ l then some (f n) else none
  | [] => by simp [kvN, valV_nil]
  | m :: l => by
    have ih := val_kvN f n l
    unfold valV kvN at *
    rw [List.map_cons, List.find?_cons]
    by_cases e : m = n
    · subst e; simp
    · have e1 : ¬ n = m := fun q => e q.symm
      have e2 : ¬ (Sum.inr m : Key) = Sum.inr n := fun q => e (Sum.inr.inj q)
      simp only [decide_eq_false e2]
      rw [ih]
      simp [e1]
theorem put_kvN {l : List Str} {n : Str} (h : n ∉ l) (f : Str → V) (v : V) : putK (kvN l f) (.inr n) v = kvN (l ++ [n]) fun m => if m = n then v else f m := by
  rw [putK_new v (by rw [val_kvN, if_neg h])]
  unfold kvN
  rw [List.map_append]
  congr 1
  · refine List.map_congr_left fun m hm => ?_
    have : ¬ m = n := fun e => h (by rw [← e]; exact hm)
    simp [this]
  · simp
theorem nd_take {l : List Str} (h : l.Nodup) {i : Nat} {n : Str} (e : l[i]? = some n) : n ∉ l.take i ∧ l.take (i + 1) = l.take i ++ [n] := by
  have e2 : l.take (i + 1) = l.take i ++ [n] := by rw [List.take_add_one, e]; rfl
  refine ⟨fun q => ?_, e2⟩
  have := (List.take_sublist (i + 1) l).nodup h
  rw [e2, List.nodup_append] at this
  exact this.2.2 n q n (List.mem_singleton.mpr rfl) rfl
def topS (i : Nat) : Stmt := PySem.Challenge.pw_shadowlinks_k23_ratios_and_sums.main.body.getD i (.Pass ⟨0, 0, 0, 0⟩)
def clsB : Stmt → List Stmt
  | .ClassDef (body := b) .. => b
  | _ => []
def topM (i j : Nat) : Stmt := (clsB (topS i)).getD j (.Pass ⟨0, 0, 0, 0⟩)
abbrev N_Sum___init__ : List Str := ["self", "terms"]
theorem sc_Sum___init__ : FnScope N_Sum___init__ ["self", "terms"] (defScope (topM 11 0)) := ⟨rfl, rfl, rfl, by decide +kernel, rfl, by decide +kernel, by decide +kernel⟩
abbrev N_Sum___len__ : List Str := ["self"]
theorem sc_Sum___len__ : FnScope N_Sum___len__ ["self"] (defScope (topM 11 1)) := ⟨rfl, rfl, rfl, by decide +kernel, rfl, by decide +kernel, by decide +kernel⟩
abbrev N_Sum___iter__ : List Str := ["self"]
theorem sc_Sum___iter__ : FnScope N_Sum___iter__ ["self"] (defScope (topM 11 2)) := ⟨rfl, rfl, rfl, by decide +kernel, rfl, by decide +kernel, by decide +kernel⟩
abbrev N_Sum___contains__ : List Str := ["self", "name", "other", "_"]
theorem sc_Sum___contains__ : FnScope N_Sum___contains__ ["self", "name"] (defScope (topM 11 3)) := ⟨rfl, rfl, rfl, by decide +kernel, rfl, by decide +kernel, by decide +kernel⟩
abbrev N_Sum___getitem__ : List Str := ["self", "name", "other", "coefficient"]
theorem sc_Sum___getitem__ : FnScope N_Sum___getitem__ ["self", "name"] (defScope (topM 11 4)) := ⟨rfl, rfl, rfl, by decide +kernel, rfl, by decide +kernel, by decide +kernel⟩
abbrev N_Sum___add__ : List Str := ["self", "other"]
theorem sc_Sum___add__ : FnScope N_Sum___add__ ["self", "other"] (defScope (topM 11 5)) := ⟨rfl, rfl, rfl, by decide +kernel, rfl, by decide +kernel, by decide +kernel⟩
abbrev N_Sum___neg__ : List Str := ["self", "name", "coefficient"]
theorem sc_Sum___neg__ : FnScope N_Sum___neg__ ["self"] (defScope (topM 11 6)) := ⟨rfl, rfl, rfl, by decide +kernel, rfl, by decide +kernel, by decide +kernel⟩
abbrev N_Sum___sub__ : List Str := ["self", "other"]
theorem sc_Sum___sub__ : FnScope N_Sum___sub__ ["self", "other"] (defScope (topM 11 7)) := ⟨rfl, rfl, rfl, by decide +kernel, rfl, by decide +kernel, by decide +kernel⟩
abbrev N_Sum___mul__ : List Str := ["self", "factor", "name", "coefficient"]
theorem sc_Sum___mul__ : FnScope N_Sum___mul__ ["self", "factor"] (defScope (topM 11 8)) := ⟨rfl, rfl, rfl, by decide +kernel, rfl, by decide +kernel, by decide +kernel⟩
abbrev N_Sum___rmul__ : List Str := ["self", "factor"]
theorem sc_Sum___rmul__ : FnScope N_Sum___rmul__ ["self", "factor"] (defScope (topM 11 9)) := ⟨rfl, rfl, rfl, by decide +kernel, rfl, by decide +kernel, by decide +kernel⟩
abbrev N_Sum_at : List Str := ["self", "assignment", "name", "coefficient"]
theorem sc_Sum_at : FnScope N_Sum_at ["self", "assignment"] (defScope (topM 11 10)) := ⟨rfl, rfl, rfl, by decide +kernel, rfl, by decide +kernel, by decide +kernel⟩
abbrev N_Sum_renamed : List Str := ["self", "table", "name", "coefficient"]
theorem sc_Sum_renamed : FnScope N_Sum_renamed ["self", "table"] (defScope (topM 11 11)) := ⟨rfl, rfl, rfl, by decide +kernel, rfl, by decide +kernel, by decide +kernel⟩
abbrev N_ratio : List Str := ["top", "bottom", "shared"]
theorem sc_ratio : FnScope N_ratio ["top", "bottom"] (defScope (topS 2)) := ⟨rfl, rfl, rfl, by decide +kernel, rfl, by decide +kernel, by decide +kernel⟩
abbrev N_total : List Str := ["parts", "top", "bottom", "part"]
theorem sc_total : FnScope N_total ["parts"] (defScope (topS 3)) := ⟨rfl, rfl, rfl, by decide +kernel, rfl, by decide +kernel, by decide +kernel⟩
abbrev N_times : List Str := ["first", "second"]
theorem sc_times : FnScope N_times ["first", "second"] (defScope (topS 4)) := ⟨rfl, rfl, rfl, by decide +kernel, rfl, by decide +kernel, by decide +kernel⟩
abbrev N_quotient : List Str := ["first", "second"]
theorem sc_quotient : FnScope N_quotient ["first", "second"] (defScope (topS 5)) := ⟨rfl, rfl, rfl, by decide +kernel, rfl, by decide +kernel, by decide +kernel⟩
abbrev N_is_below : List Str := ["first", "second"]
theorem sc_is_below : FnScope N_is_below ["first", "second"] (defScope (topS 6)) := ⟨rfl, rfl, rfl, by decide +kernel, rfl, by decide +kernel, by decide +kernel⟩
abbrev N_ratio_at : List Str := ["terms", "assignment", "parts", "name", "coefficient"]
theorem sc_ratio_at : FnScope N_ratio_at ["terms", "assignment"] (defScope (topS 7)) := ⟨rfl, rfl, rfl, by decide +kernel, rfl, by decide +kernel, by decide +kernel⟩
abbrev N_collected : List Str := ["terms", "found", "name", "coefficient"]
theorem sc_collected : FnScope N_collected ["terms"] (defScope (topS 9)) := ⟨rfl, rfl, rfl, by decide +kernel, rfl, by decide +kernel, by decide +kernel⟩
abbrev N_is_terms : List Str := ["terms", "k"]
theorem sc_is_terms : FnScope N_is_terms ["terms"] (defScope (topS 10)) := ⟨rfl, rfl, rfl, by decide +kernel, rfl, by decide +kernel, by decide +kernel⟩
abbrev N__law_source : List Str := ["_law_script", "_law_k", "_law_number_here"]
theorem sc__law_source : FnScope N__law_source ["_law_script", "_law_k"] (defScope (topS 13)) := ⟨rfl, rfl, rfl, by decide +kernel, rfl, by decide +kernel, by decide +kernel⟩
abbrev N__law_draw : List Str := ["_law_source_here", "_law_limit", "_law_number_here", "_law_mixed"]
theorem sc__law_draw : FnScope N__law_draw ["_law_source_here", "_law_limit"] (defScope (topS 14)) := ⟨rfl, rfl, rfl, by decide +kernel, rfl, by decide +kernel, by decide +kernel⟩
abbrev N__law_size : List Str := ["_law_source_here", "_law_choice"]
theorem sc__law_size : FnScope N__law_size ["_law_source_here"] (defScope (topS 15)) := ⟨rfl, rfl, rfl, by decide +kernel, rfl, by decide +kernel, by decide +kernel⟩
abbrev N__law_number : List Str := ["_law_source_here", "_law_size_here"]
theorem sc__law_number : FnScope N__law_number ["_law_source_here"] (defScope (topS 16)) := ⟨rfl, rfl, rfl, by decide +kernel, rfl, by decide +kernel, by decide +kernel⟩
abbrev N__law_shared : List Str := ["_law_first", "_law_second", "_law_a", "_law_b", "_law_k", "_law_rest"]
theorem sc__law_shared : FnScope N__law_shared ["_law_first", "_law_second"] (defScope (topS 17)) := ⟨rfl, rfl, rfl, by decide +kernel, rfl, by decide +kernel, by decide +kernel⟩
abbrev N__law_lowest : List Str := ["_law_top", "_law_bottom", "_law_shared_here"]
theorem sc__law_lowest : FnScope N__law_lowest ["_law_top", "_law_bottom"] (defScope (topS 18)) := ⟨rfl, rfl, rfl, by decide +kernel, rfl, by decide +kernel, by decide +kernel⟩
abbrev N__law_ratio : List Str := ["_law_source_here", "_law_top"]
theorem sc__law_ratio : FnScope N__law_ratio ["_law_source_here"] (defScope (topS 19)) := ⟨rfl, rfl, rfl, by decide +kernel, rfl, by decide +kernel, by decide +kernel⟩
abbrev N__law_is : List Str := ["_law_actual", "_law_expected", "_law_k"]
theorem sc__law_is : FnScope N__law_is ["_law_actual", "_law_expected"] (defScope (topS 20)) := ⟨rfl, rfl, rfl, by decide +kernel, rfl, by decide +kernel, by decide +kernel⟩
abbrev N__law_added : List Str := ["_law_parts", "_law_top", "_law_bottom", "_law_part"]
theorem sc__law_added : FnScope N__law_added ["_law_parts"] (defScope (topS 21)) := ⟨rfl, rfl, rfl, by decide +kernel, rfl, by decide +kernel, by decide +kernel⟩
abbrev N__law_total : List Str := ["_law_parts"]
theorem sc__law_total : FnScope N__law_total ["_law_parts"] (defScope (topS 22)) := ⟨rfl, rfl, rfl, by decide +kernel, rfl, by decide +kernel, by decide +kernel⟩
abbrev N__law_ratios_right : List Str := ["_law_source_here", "_law_top", "_law_bottom", "_law_parts", "_law_first", "_law_second", "_law_below", "_law_k"]
theorem sc__law_ratios_right : FnScope N__law_ratios_right ["_law_source_here"] (defScope (topS 23)) := ⟨rfl, rfl, rfl, by decide +kernel, rfl, by decide +kernel, by decide +kernel⟩
abbrev N__law_pairs : List Str := ["_law_source_here", "_law_pairs_here", "_law_k", "_law_name"]
theorem sc__law_pairs : FnScope N__law_pairs ["_law_source_here"] (defScope (topS 24)) := ⟨rfl, rfl, rfl, by decide +kernel, rfl, by decide +kernel, by decide +kernel⟩
abbrev N__law_terms : List Str := ["_law_pairs_here", "_law_terms_here", "_law_name", "_law_coefficient", "_law_pair"]
theorem sc__law_terms : FnScope N__law_terms ["_law_pairs_here"] (defScope (topS 25)) := ⟨rfl, rfl, rfl, by decide +kernel, rfl, by decide +kernel, by decide +kernel⟩
abbrev N__law_same : List Str := ["_law_actual", "_law_pairs_here", "_law_terms_here", "_law_name", "_law_coefficient", "_law_term", "_law_pair"]
theorem sc__law_same : FnScope N__law_same ["_law_actual", "_law_pairs_here"] (defScope (topS 26)) := ⟨rfl, rfl, rfl, by decide +kernel, rfl, by decide +kernel, by decide +kernel⟩
abbrev N__law_scaled : List Str := ["_law_pairs_here", "_law_factor", "_law_pair"]
theorem sc__law_scaled : FnScope N__law_scaled ["_law_pairs_here", "_law_factor"] (defScope (topS 27)) := ⟨rfl, rfl, rfl, by decide +kernel, rfl, by decide +kernel, by decide +kernel⟩
abbrev N__law_signs_right : List Str := ["_law_left", "_law_right", "_law_factor", "_law_first", "_law_second"]
theorem sc__law_signs_right : FnScope N__law_signs_right ["_law_left", "_law_right", "_law_factor"] (defScope (topS 28)) := ⟨rfl, rfl, rfl, by decide +kernel, rfl, by decide +kernel, by decide +kernel⟩
abbrev N__law_values_right : List Str := ["_law_source_here", "_law_pairs_here", "_law_numbers", "_law_ratios", "_law_name", "_law_before", "_law_terms_here", "_law_expected", "_law_term"]
theorem sc__law_values_right : FnScope N__law_values_right ["_law_source_here", "_law_pairs_here"] (defScope (topS 29)) := ⟨rfl, rfl, rfl, by decide +kernel, rfl, by decide +kernel, by decide +kernel⟩
abbrev N__law_names_right : List Str := ["_law_source_here", "_law_pairs_here", "_law_table", "_law_name", "_law_renamed", "_law_coefficient", "_law_first"]
theorem sc__law_names_right : FnScope N__law_names_right ["_law_source_here", "_law_pairs_here"] (defScope (topS 30)) := ⟨rfl, rfl, rfl, by decide +kernel, rfl, by decide +kernel, by decide +kernel⟩
abbrev N__law_form_right : List Str := ["_law_pairs_here", "_law_names", "_law_right", "_law_k", "_law_told", "_law_pair"]
theorem sc__law_form_right : FnScope N__law_form_right ["_law_pairs_here"] (defScope (topS 31)) := ⟨rfl, rfl, rfl, by decide +kernel, rfl, by decide +kernel, by decide +kernel⟩
abbrev N_law : List Str := ["_law_script", "_law_source_here", "_law_left", "_law_right", "_law_passed", "_law_first"]
theorem sc_law : FnScope N_law ["_law_script"] (defScope (topS 32)) := ⟨rfl, rfl, rfl, by decide +kernel, rfl, by decide +kernel, by decide +kernel⟩
structure Txt (K : PySem.W.Frag) (mg : Str → Option Value) (A : Nat → Addr) (D : Nat → FuncData) : Prop where
  g_Sum : mg "Sum" = some (.ref (A 11))
  cl_Sum : Cls K (A 11)
  cr_Sum : ClX.CRead K (A 11) (.type "type")
  sf_Sum : PySem.W.selfFirst K (A 11) = true
  n_Sum_terms : NoAttr K (A 11) "terms"
  mk_Sum : Mk K (A 11) (A 1220)
  F_Sum___init__ : FunD K "__init__" "Sum.__init__" (defArgs (topM 11 0)) (defBody (topM 11 0)) (defScope (topM 11 0)) [.ref (A 8220)] [] (A 1220) (D 1220)
  b1_Sum___init__ : ∃ ds, Vals [.ref (A 8220)] ds ∧ Binds K (D 1220) ["self", "terms"] ds
  d_Sum___init___0 : ∀ H : Hp, SqT K H (A 8220) []
  b_Sum___init__ : Binds K (D 1220) ["self", "terms"] []
  M_Sum___init__ : Meth K (A 11) "__init__" (A 1220)
  F_Sum___len__ : Fun K "__len__" "Sum.__len__" (topM 11 1) (A 1221) (D 1221)
  b_Sum___len__ : Binds K (D 1221) ["self"] []
  M_Sum___len__ : Meth K (A 11) "__len__" (A 1221)
  F_Sum___iter__ : Fun K "__iter__" "Sum.__iter__" (topM 11 2) (A 1222) (D 1222)
  b_Sum___iter__ : Binds K (D 1222) ["self"] []
  M_Sum___iter__ : Meth K (A 11) "__iter__" (A 1222)
  F_Sum___contains__ : Fun K "__contains__" "Sum.__contains__" (topM 11 3) (A 1223) (D 1223)
  b_Sum___contains__ : Binds K (D 1223) ["self", "name"] []
  M_Sum___contains__ : Meth K (A 11) "__contains__" (A 1223)
  F_Sum___getitem__ : Fun K "__getitem__" "Sum.__getitem__" (topM 11 4) (A 1224) (D 1224)
  b_Sum___getitem__ : Binds K (D 1224) ["self", "name"] []
  M_Sum___getitem__ : Meth K (A 11) "__getitem__" (A 1224)
  F_Sum___add__ : Fun K "__add__" "Sum.__add__" (topM 11 5) (A 1225) (D 1225)
  b_Sum___add__ : Binds K (D 1225) ["self", "other"] []
  M_Sum___add__ : Meth K (A 11) (PySem.dunder (Operator.Add).info.2) (A 1225)
  F_Sum___neg__ : Fun K "__neg__" "Sum.__neg__" (topM 11 6) (A 1226) (D 1226)
  b_Sum___neg__ : Binds K (D 1226) ["self"] []
  M_Sum___neg__ : Meth K (A 11) "__neg__" (A 1226)
  F_Sum___sub__ : Fun K "__sub__" "Sum.__sub__" (topM 11 7) (A 1227) (D 1227)
  b_Sum___sub__ : Binds K (D 1227) ["self", "other"] []
  M_Sum___sub__ : Meth K (A 11) (PySem.dunder (Operator.Sub).info.2) (A 1227)
  F_Sum___mul__ : Fun K "__mul__" "Sum.__mul__" (topM 11 8) (A 1228) (D 1228)
  b_Sum___mul__ : Binds K (D 1228) ["self", "factor"] []
  M_Sum___mul__ : Meth K (A 11) (PySem.dunder (Operator.Mult).info.2) (A 1228)
  F_Sum___rmul__ : Fun K "__rmul__" "Sum.__rmul__" (topM 11 9) (A 1229) (D 1229)
  b_Sum___rmul__ : Binds K (D 1229) ["self", "factor"] []
  M_Sum___rmul__ : Meth K (A 11) (PySem.dunderR (Operator.Mult).info.2) (A 1229)
  F_Sum_at : Fun K "at" "Sum.at" (topM 11 10) (A 1230) (D 1230)
  b_Sum_at : Binds K (D 1230) ["self", "assignment"] []
  M_Sum_at : Meth K (A 11) "at" (A 1230)
  F_Sum_renamed : Fun K "renamed" "Sum.renamed" (topM 11 11) (A 1231) (D 1231)
  b_Sum_renamed : Binds K (D 1231) ["self", "table"] []
  M_Sum_renamed : Meth K (A 11) "renamed" (A 1231)
  R_Sum : RinT K (A 11) (A 1228) .Mult
  B_Sum_Mult_int : BinT K (A 11) (Operator.Mult) "int"
  F_ratio : FunD K "ratio" "ratio" (defArgs (topS 2)) (defBody (topS 2)) (defScope (topS 2)) [.int 1] [] (A 2) (D 2)
  g_ratio : mg "ratio" = some (.ref (A 2))
  b_ratio : Binds K (D 2) ["top", "bottom"] []
  b1_ratio : ∃ ds, Vals [.int 1] ds ∧ Binds K (D 2) ["top", "bottom"] ds
  F_total : Fun K "total" "total" (topS 3) (A 3) (D 3)
  g_total : mg "total" = some (.ref (A 3))
  F_times : Fun K "times" "times" (topS 4) (A 4) (D 4)
  g_times : mg "times" = some (.ref (A 4))
  b_times : Binds K (D 4) ["first", "second"] []
  F_quotient : Fun K "quotient" "quotient" (topS 5) (A 5) (D 5)
  g_quotient : mg "quotient" = some (.ref (A 5))
  b_quotient : Binds K (D 5) ["first", "second"] []
  F_is_below : Fun K "is_below" "is_below" (topS 6) (A 6) (D 6)
  g_is_below : mg "is_below" = some (.ref (A 6))
  b_is_below : Binds K (D 6) ["first", "second"] []
  F_ratio_at : Fun K "ratio_at" "ratio_at" (topS 7) (A 7) (D 7)
  g_ratio_at : mg "ratio_at" = some (.ref (A 7))
  b_ratio_at : Binds K (D 7) ["terms", "assignment"] []
  F_collected : Fun K "collected" "collected" (topS 9) (A 9) (D 9)
  g_collected : mg "collected" = some (.ref (A 9))
  b_collected : Binds K (D 9) ["terms"] []
  F_is_terms : Fun K "is_terms" "is_terms" (topS 10) (A 10) (D 10)
  g_is_terms : mg "is_terms" = some (.ref (A 10))
  b_is_terms : Binds K (D 10) ["terms"] []
  F__law_source : Fun K "_law_source" "_law_source" (topS 13) (A 13) (D 13)
  g__law_source : mg "_law_source" = some (.ref (A 13))
  b__law_source : Binds K (D 13) ["_law_script", "_law_k"] []
  F__law_draw : Fun K "_law_draw" "_law_draw" (topS 14) (A 14) (D 14)
  g__law_draw : mg "_law_draw" = some (.ref (A 14))
  b__law_draw : Binds K (D 14) ["_law_source_here", "_law_limit"] []
  F__law_size : Fun K "_law_size" "_law_size" (topS 15) (A 15) (D 15)
  g__law_size : mg "_law_size" = some (.ref (A 15))
  b__law_size : Binds K (D 15) ["_law_source_here"] []
  F__law_number : Fun K "_law_number" "_law_number" (topS 16) (A 16) (D 16)
  g__law_number : mg "_law_number" = some (.ref (A 16))
  b__law_number : Binds K (D 16) ["_law_source_here"] []
  F__law_shared : Fun K "_law_shared" "_law_shared" (topS 17) (A 17) (D 17)
  g__law_shared : mg "_law_shared" = some (.ref (A 17))
  b__law_shared : Binds K (D 17) ["_law_first", "_law_second"] []
  F__law_lowest : Fun K "_law_lowest" "_law_lowest" (topS 18) (A 18) (D 18)
  g__law_lowest : mg "_law_lowest" = some (.ref (A 18))
  b__law_lowest : Binds K (D 18) ["_law_top", "_law_bottom"] []
  F__law_ratio : Fun K "_law_ratio" "_law_ratio" (topS 19) (A 19) (D 19)
  g__law_ratio : mg "_law_ratio" = some (.ref (A 19))
  b__law_ratio : Binds K (D 19) ["_law_source_here"] []
  F__law_is : Fun K "_law_is" "_law_is" (topS 20) (A 20) (D 20)
  g__law_is : mg "_law_is" = some (.ref (A 20))
  b__law_is : Binds K (D 20) ["_law_actual", "_law_expected"] []
  F__law_added : Fun K "_law_added" "_law_added" (topS 21) (A 21) (D 21)
  g__law_added : mg "_law_added" = some (.ref (A 21))
  b__law_added : Binds K (D 21) ["_law_parts"] []
  F__law_total : Fun K "_law_total" "_law_total" (topS 22) (A 22) (D 22)
  g__law_total : mg "_law_total" = some (.ref (A 22))
  b__law_total : Binds K (D 22) ["_law_parts"] []
  F__law_ratios_right : Fun K "_law_ratios_right" "_law_ratios_right" (topS 23) (A 23) (D 23)
  g__law_ratios_right : mg "_law_ratios_right" = some (.ref (A 23))
  b__law_ratios_right : Binds K (D 23) ["_law_source_here"] []
  F__law_pairs : Fun K "_law_pairs" "_law_pairs" (topS 24) (A 24) (D 24)
  g__law_pairs : mg "_law_pairs" = some (.ref (A 24))
  b__law_pairs : Binds K (D 24) ["_law_source_here"] []
  F__law_terms : Fun K "_law_terms" "_law_terms" (topS 25) (A 25) (D 25)
  g__law_terms : mg "_law_terms" = some (.ref (A 25))
  b__law_terms : Binds K (D 25) ["_law_pairs_here"] []
  F__law_same : Fun K "_law_same" "_law_same" (topS 26) (A 26) (D 26)
  g__law_same : mg "_law_same" = some (.ref (A 26))
  b__law_same : Binds K (D 26) ["_law_actual", "_law_pairs_here"] []
  F__law_scaled : Fun K "_law_scaled" "_law_scaled" (topS 27) (A 27) (D 27)
  g__law_scaled : mg "_law_scaled" = some (.ref (A 27))
  b__law_scaled : Binds K (D 27) ["_law_pairs_here", "_law_factor"] []
  F__law_signs_right : Fun K "_law_signs_right" "_law_signs_right" (topS 28) (A 28) (D 28)
  g__law_signs_right : mg "_law_signs_right" = some (.ref (A 28))
  b__law_signs_right : Binds K (D 28) ["_law_left", "_law_right", "_law_factor"] []
  F__law_values_right : Fun K "_law_values_right" "_law_values_right" (topS 29) (A 29) (D 29)
  g__law_values_right : mg "_law_values_right" = some (.ref (A 29))
  b__law_values_right : Binds K (D 29) ["_law_source_here", "_law_pairs_here"] []
  F__law_names_right : Fun K "_law_names_right" "_law_names_right" (topS 30) (A 30) (D 30)
  g__law_names_right : mg "_law_names_right" = some (.ref (A 30))
  b__law_names_right : Binds K (D 30) ["_law_source_here", "_law_pairs_here"] []
  F__law_form_right : Fun K "_law_form_right" "_law_form_right" (topS 31) (A 31) (D 31)
  g__law_form_right : mg "_law_form_right" = some (.ref (A 31))
  b__law_form_right : Binds K (D 31) ["_law_pairs_here"] []
  F_law : Fun K "law" "law" (topS 32) (A 32) (D 32)
  g_law : mg "law" = some (.ref (A 32))
  b_law : Binds K (D 32) ["_law_script"] []
  z_len : mg "len" = none
  z_int : mg "int" = none
  z_bool : mg "bool" = none
  z_list : mg "list" = none
  z_tuple : mg "tuple" = none
  z_range : mg "range" = none
  z_sorted : mg "sorted" = none
  z_isinstance : mg "isinstance" = none
  z_abs : mg "abs" = none
  z_sum : mg "sum" = none
  z_iter : mg "iter" = none
  i_gcd : mg "gcd" = some (.builtin "math.gcd")
section
variable {P : Program} {w : World} {K : PySem.W.Frag} {mg : Str → Option Value} {base : Heap} {A : Nat → Addr} {D : Nat → FuncData}
def sp__law_source (K : PySem.W.Frag) : Sp := fun vs H Q _ => ∃ (a : Addr) (ns : List Int) (k : Nat), vs = [.ref a, .int (k : Int)] ∧ SqL K H a (ns.map V.int) ∧ ns.length ≤ 63 ∧
  ∀ p H', H p = none → Kp [] H H' → Src H' p → Q (.ref p) H'
theorem ok__law_source (T : Txt K mg A D) : FnOk P w K mg base CX0 1 (A 13) (D 13) ["_law_script", "_law_k"] (sp__law_source K) := by
  refine T.F__law_source.ok sc__law_source (fun vs H Q E h => ?_) (fun cdv A' outer s H vs Q E hr h => ?_)
  · obtain ⟨a, ns, k, rfl, hS, hl, q⟩ := h
    rfl
  · obtain ⟨a, ns, k, rfl, hS, hl, q⟩ := h
    have hu := hu_of hr
    refine ⟨_, (pss_cons (ps_set (i := 2) sc__law_source.nd rfl (Or.inl rfl) pe_int)
      (pss_cons (ps_if (pt_cmpR op_lt (pv 1) (pe_callB (id := "len") (cK_len (K := K) rfl) (by rfl) T.z_len (by decide +kernel) (pa_cons (pv 0) pa_nil)) (nomark _))
        (pss_one (ps_set (i := 2) sc__law_source.nd rfl (Or.inl rfl) (pe_callTy (T := "int") call_int1 (by rfl) T.z_int (by decide +kernel) (pa_cons (pe_ix (xK_list (K := K) rfl) (pv 0) (pv 1) (fun _ _ => rfl)) pa_nil))))
        pss_nil)
      (pss_one (ps_ret (pe_lst (pa_cons (pv 2) (pa_cons (pe_op op_add (pe_op op_mul pe_int (pv 1)) (pe_callB (id := "len") (cK_len (K := K) rfl) (by rfl) T.z_len (by decide +kernel) (pa_cons (pv 0) pa_nil))) pa_nil))))))), ?_⟩
    -- _law_number = 0; if _law_k < len(_law_script)
    refine ⟨_, rfl, _, rfl, _, ns.length, rfl, .inl ⟨_, hS, by rw [List.length_map]⟩, _, _, rfl, rfl, _, rfl, ?_⟩
    refine ite2 (fun c => ?_) (fun c => ?_)
    · have hk : k < ns.length := by simpa using c
      refine ⟨_, rfl, _, rfl, _, _, _, .int ns[k], rfl, rfl, hS, atI_nat (by simp [hk]), .inl ⟨_, rfl, ?_⟩⟩
      refine ⟨_, rfl, _, rfl, _, _, rfl, rfl, .inl ⟨by decide, by decide⟩, _, rfl, _, ns.length, rfl, .inl ⟨_, hS, by rw [List.length_map]⟩, _, _, rfl, rfl, sz (by simp), fun p hp => ?_⟩
      exact q p _ hp (Kp.new hp) ⟨_, _, upd_same⟩
    · refine ⟨_, rfl, _, rfl, _, _, rfl, rfl, .inl ⟨by decide, by decide⟩, _, rfl, _, ns.length, rfl, .inl ⟨_, hS, by rw [List.length_map]⟩, _, _, rfl, rfl, sz (by simp), fun p hp => ?_⟩
      exact q p _ hp (Kp.new hp) ⟨_, _, upd_same⟩
def sp__law_draw (K : PySem.W.Frag) : Sp := fun vs H Q _ => ∃ (a : Addr) (lim : Int), vs = [.ref a, .int lim] ∧ Src H a ∧ 0 < lim ∧ lim < 1073741824 ∧
  ∀ (r : Int) H', 0 ≤ r → r < lim → Kp [a] H H' → Src H' a → Q (.int r) H'
theorem ok__law_draw (T : Txt K mg A D) : FnOk P w K mg base CX0 1 (A 14) (D 14) ["_law_source_here", "_law_limit"] (sp__law_draw K) := by
  refine T.F__law_draw.ok sc__law_draw (fun vs H Q E h => ?_) (fun cdv A' outer s H vs Q E hr h => ?_)
  · obtain ⟨a, lim, rfl, ⟨n, c, hs⟩, h0, h1, q⟩ := h
    rfl
  · obtain ⟨a, lim, rfl, ⟨n, c, hs⟩, h0, h1, q⟩ := h
    have hu := hu_of hr
    refine ⟨_, (pss_cons (ps_set (i := 2) sc__law_draw.nd rfl (Or.inl rfl) (pe_ix (xK_list (K := K) rfl) (pv 0) pe_int (fun _ _ => rfl)))
      (pss_cons (ps_if (pt_cmpR op_ge (pv 2) (pe_op op_pow pe_int pe_int) (nomark _))
        (pss_cons (ps_asg (pe_op op_fdiv (pv 2) (pv 1)) (pg_sub (pv 0) pe_int set_list))
        (pss_one (ps_ret (pe_op op_mod (pe_callTy (T := "int") call_int1 (by rfl) T.z_int (by decide +kernel) (pa_cons (pv 2) pa_nil)) (pv 1)))))
        pss_nil)
      (pss_cons (ps_asg (pe_op op_add (pe_ix (xK_list (K := K) rfl) (pv 0) pe_int (fun _ _ => rfl)) pe_int) (pg_sub (pv 0) pe_int set_list))
      (pss_cons (ps_set (i := 3) sc__law_draw.nd rfl (Or.inl rfl) (pe_op op_mod (pe_callTy (T := "int") call_int1 (by rfl) T.z_int (by decide +kernel) (pa_cons (pe_op op_add (pe_op op_add (pe_op op_mul (pv 2) pe_int) (pe_op op_mul (pe_ix (xK_list (K := K) rfl) (pv 0) pe_int (fun _ _ => rfl)) pe_int)) pe_int) pa_nil)) pe_int))
      (pss_cons (ps_set (i := 3) sc__law_draw.nd rfl (Or.inl rfl) (pe_op op_mod (pe_callTy (T := "int") call_int1 (by rfl) T.z_int (by decide +kernel) (pa_cons (pe_op op_add (pe_op op_add (pe_op op_mul (pv 3) (pv 3)) (pv 2)) (pe_op op_mul (pe_ix (xK_list (K := K) rfl) (pv 0) pe_int (fun _ _ => rfl)) pe_int)) pa_nil)) pe_int))
      (pss_cons (ps_set (i := 3) sc__law_draw.nd rfl (Or.inl rfl) (pe_op op_mod (pe_callTy (T := "int") call_int1 (by rfl) T.z_int (by decide +kernel) (pa_cons (pe_op op_add (pe_op op_add (pe_op op_mul (pv 3) (pv 3)) (pe_op op_fdiv (pv 3) pe_int)) pe_int) pa_nil)) pe_int))
      (pss_one (ps_ret (pe_op op_mod (pe_op op_fdiv (pe_callTy (T := "int") call_int1 (by rfl) T.z_int (by decide +kernel) (pa_cons (pv 3) pa_nil)) pe_int) (pv 1)))))))))), ?_⟩
    walk_at "rds"
    refine ⟨⟨by decide, by decide, by decide⟩, ?_⟩
    walk_at "rds"
    have kp : ∀ o, Kp [a] H (upd H a o) := fun o => Kp.own hs rfl (by simp)
    refine ite2 (fun _ => ?_) (fun _ => ?_)
    · refine ⟨_, rfl, _, rfl, _, _, rfl, rfl, ⟨h0, h1⟩, _, rfl, a, _, _, 0, rfl, rfl, hs, rfl, ?_⟩
      refine ⟨_, rfl, .inl ⟨_, rfl, _, rfl, _, _, rfl, rfl, h0, ?_⟩⟩
      exact q _ _ (Int.emod_nonneg _ (by omega)) (Int.emod_lt_of_pos _ h0) (kp _) ⟨_, _, upd_same⟩
    · have e1 : SqL K H a [.int n, .int c] := SqL.of hs
      refine ⟨_, rfl, _, _, _, _, rfl, rfl, e1, rfl, _, _, rfl, rfl, _, rfl, a, _, _, 1, rfl, rfl, hs, rfl, ?_⟩
      have e2 : SqL K (upd H a (.lst [.int n, .int (c + 1)])) a [.int n, .int (c + 1)] := SqL.of upd_same
      refine ⟨_, rfl, _, _, rfl, rfl, .inr ⟨by decide, by decide⟩, _, rfl, _, _, _, _, rfl, rfl, e2, rfl, _, _, rfl, rfl, .inr ⟨by decide, by decide⟩, _, _, rfl, rfl, _, _, rfl, rfl, .inl ⟨_, rfl, _, _, rfl, rfl, (by show (0 : Int) < _; decide), ?_⟩⟩
      refine ⟨_, rfl, _, rfl, _, _, rfl, rfl, .inl ⟨by omega, by omega⟩, _, rfl, _, _, rfl, rfl, _, rfl, _, _, _, _, rfl, rfl, e2, rfl, _, _, rfl, rfl, .inr ⟨by decide, by decide⟩, _, _, rfl, rfl, .inl ⟨_, rfl, _, _, rfl, rfl, (by show (0 : Int) < _; decide), ?_⟩⟩
      refine ⟨_, rfl, _, rfl, _, _, rfl, rfl, .inl ⟨by omega, by omega⟩, _, rfl, _, _, rfl, rfl, ⟨by decide, by decide⟩, _, _, rfl, rfl, _, _, rfl, rfl, .inl ⟨_, rfl, _, _, rfl, rfl, (by show (0 : Int) < _; decide), ?_⟩⟩
      refine ⟨_, rfl, .inl ⟨_, rfl, _, _, rfl, rfl, ⟨by decide, by decide⟩, _, rfl, _, _, rfl, rfl, h0, ?_⟩⟩
      exact q _ _ (Int.emod_nonneg _ (by omega)) (Int.emod_lt_of_pos _ h0) (kp _) ⟨_, _, upd_same⟩
def sp_ratio (K : PySem.W.Frag) : Sp := fun vs H Q _ => ∃ t b : Int, vs = [.int t, .int b] ∧ b ≠ 0 ∧ Sm 8000 b ∧ ∀ p H', Kp [] H H' → SqT K H' p [.int (lowP t b).1, .int (lowP t b).2] → Q (.ref p) H'
theorem ok_ratio (T : Txt K mg A D) : FnOk P w K mg base CX0 1 (A 2) (D 2) ["top", "bottom"] (sp_ratio K) := by
  refine T.F_ratio.ok (CX := CX0) sc_ratio (fun vs H Q E h => ?_) (fun cdv A' outer s H vs Q E hr h => ?_)
  · obtain ⟨t, b, rfl, hb, hs, q⟩ := h
    rfl
  · obtain ⟨t, b, rfl, hb, hs, q⟩ := h
    have hu := hu_of hr
    refine nox_ex ?_
    refine ⟨_, (pss_cons (ps_set (i := 2) sc_ratio.nd rfl (Or.inl rfl) (pe_callBfun cr_gcd rfl T.i_gcd (pa_cons (pv 0) (pa_cons (pv 1) pa_nil))))
      (pss_cons (ps_if (pt_cmpR op_lt (pv 1) pe_int (nomark _))
        (pss_one (ps_set (i := 2) sc_ratio.nd rfl (Or.inl rfl) (pe_un un_neg (pv 2))))
        pss_nil)
      (pss_one (ps_ret (pe_tup (pa_cons (pe_op op_fdivX (pv 0) (pv 2)) (pa_cons (pe_op op_fdivX (pv 1) (pv 2)) pa_nil))))))), ?_⟩
    walk_at "st"
    refine ⟨_, rfl, _, rfl, t, b, rfl, ?_⟩
    refine seq_ifK0 ⟨_, rfl, _, _, rfl, rfl, _, rfl, ?_⟩
    have fin : ∀ {p : Addr}, H p = none → Q (.ref p) (upd H p (.tup [.int (lowP t b).1, .int (lowP t b).2])) := fun hp => q _ _ (Kp.new hp) (SqT.of upd_same)
    refine ite2 (fun c => ?_) (fun c => ?_)
    · have c' : b < 0 := by simpa using c
      have es : -((Nat.gcd t.natAbs b.natAbs : Nat) : Int) = sg t b := by unfold sg; rw [if_pos c']
      refine setK ⟨_, rfl, _, rfl, ?_⟩
      dsimp only
      rw [es]
      walk_at "st"
      exact ⟨_, rfl, _, rfl, _, _, rfl, rfl, ⟨sg_ne hb, sg_log hb (by decide) hs (by decide)⟩, _, rfl, _, rfl, _, _, rfl, rfl, ⟨sg_ne hb, sg_log hb (by decide) hs (by decide)⟩, sz (by simp), fun p hp => fin hp⟩
    · have c' : ¬ b < 0 := by simpa using c
      have es : ((Nat.gcd t.natAbs b.natAbs : Nat) : Int) = sg t b := by unfold sg; rw [if_neg c']
      rw [es]
      walk_at "st"
      exact ⟨_, rfl, _, rfl, _, _, rfl, rfl, ⟨sg_ne hb, sg_log hb (by decide) hs (by decide)⟩, _, rfl, _, rfl, _, _, rfl, rfl, ⟨sg_ne hb, sg_log hb (by decide) hs (by decide)⟩, sz (by simp), fun p hp => fin hp⟩
def sp_total (K : PySem.W.Frag) : Sp := fun vs H Q _ => ∃ (p : Addr) (xs : List V) (qs : List (Int × Int)), vs = [.ref p] ∧ SqT K H p xs ∧ FdAll K H 1 xs (qs.map prQ) ∧ gQs qs ∧ ∀ r H', Kp [] H H' → SqT K H' r [.int (lowP (tot qs).1 (tot qs).2).1, .int (lowP (tot qs).1 (tot qs).2).2] → Q (.ref r) H'
theorem ok_total (T : Txt K mg A D) : FnR P w K mg base CX0 2 (A 3) (star 0 (sp_total K)) := by
  obtain ⟨oc0, od0, kV0, doc0, pm0, an0, cdv, ct0, osl0, e0, lk, hcd⟩ := T.F_total.ex
  rw [e0] at lk
  refine StX.fn_star (ps := []) (pv := "parts") (sp := sp_total K) lk hcd sc_total StX.cxUp_none (fun us rest hl => ?_) (fun A' outer s H vs Q E hr h => ?_)
  · match us, hl with | [], _ => cases rest <;> rfl
  · obtain ⟨p, xs, qs, rfl, hp, hd, hg, q⟩ := h
    have hu := hu_of hr
    have G_ratio : FnOk P w K mg base CX0 1 (A 2) (D 2) ["top", "bottom"] (sp_ratio K) := ok_ratio T
    refine nox_ex ?_
    refine ⟨_, (pss_cons (ps_set (i := 1) sc_total.nd rfl (Or.inl rfl) pe_int)
      (pss_cons (ps_set (i := 2) sc_total.nd rfl (Or.inl rfl) pe_int)
      (pss_cons (ps_for PassesOwn.never rfl (iK_tup (K := K) rfl (pv 0)) (pg_name (i := 3) sc_total.nd rfl (Or.inl rfl))
        (pss_cons (ps_set (i := 1) sc_total.nd rfl (Or.inl rfl) (pe_op op_add (pe_op op_mulW (pv 1) (pe_ix (xK_tup (K := K) rfl) (pv 3) pe_int (fun _ _ => rfl))) (pe_op op_mulW (pe_ix (xK_tup (K := K) rfl) (pv 3) pe_int (fun _ _ => rfl)) (pv 2))))
        (pss_one (ps_set (i := 2) sc_total.nd rfl (Or.inl rfl) (pe_op op_mulW (pv 2) (pe_ix (xK_tup (K := K) rfl) (pv 3) pe_int (fun _ _ => rfl)))))))
      (pss_one (ps_ret (pe_call G_ratio (hr.mono (by decide)) rfl T.g_ratio T.F_ratio.kp T.b_ratio .nil pass0 (pa_cons (pv 1) (pa_cons (pv 2) pa_nil)))))))), ?_⟩
    have ln : xs.length = qs.length := by rw [hd.length, List.length_map]
    refine seq_set vl_c ?_
    refine seq_set vl_c ?_
    refine seq_forK ?_
    refine ⟨_, rfl, p, rfl, ⟨_, hp⟩, for_seq walk_tup (fun i σ H' => (∃ v3 : Option V, σ = [some (.ref p), some (.int (tot (qs.take i)).1), some (.int (tot (qs.take i)).2), v3]) ∧ H' = H) ⟨⟨_, rfl⟩, rfl⟩ (fun i σ H' _ z => by rw [z.2]; exact hp) ?_ ?_⟩
    · rintro i v σ H1 H2 hi ⟨⟨v3, rfl⟩, rfl⟩ ⟨rfl, hv⟩
      obtain ⟨q', hq', fq⟩ := hd.atm hv
      obtain ⟨a, rfl, sa⟩ := prQ_inv fq
      have g := hg.2 q' (List.mem_of_getElem? hq')
      obtain ⟨t1, t2, t3⟩ := tot_ok hg.2 i
      have il : i < 6 := by have := hg.1; have : i < qs.length := (List.getElem?_eq_some_iff.mp hq').1; omega
      refine gnK ?_
      walk_at "st"
      refine ⟨_, rfl, _, rfl, a, _, 1, _, rfl, rfl, sa, rfl, _, _, rfl, rfl, t1.cmul g.b (by omega) (by decide) (by omega), _, rfl, a, _, 0, _, rfl, rfl, sa, rfl, _, rfl, _, _, rfl, rfl, g.t.cmul t2 (by decide) (by omega) (by omega), _, _, rfl, rfl, ?_⟩
      walk_at "st"
      refine ⟨_, rfl, _, rfl, a, _, 1, _, rfl, rfl, sa, rfl, _, _, rfl, rfl, t2.cmul g.b (by omega) (by decide) (by omega), ?_⟩
      refine ⟨⟨some (.ref a), ?_⟩, rfl⟩
      rw [tot_take hq']
      rfl
    · rintro σ H1 ⟨⟨v3, rfl⟩, rfl⟩
      rw [ln, List.take_length]
      obtain ⟨t1, t2, t3⟩ := tot_ok hg.2 qs.length
      rw [List.take_length] at t1 t2 t3
      walk_at "st"
      exact ⟨_, rfl, _, rfl, _, _, rfl, by omega, t2.le (by have := hg.1; omega), q⟩
def sp_times (K : PySem.W.Frag) : Sp := fun vs H Q _ => ∃ (v v' : V) (f s : Int × Int), vs = [v, v'] ∧ Fd K H 1 v (prQ f) ∧ Fd K H 1 v' (prQ s) ∧ GQ f ∧ GQ s ∧ ∀ r H', Kp [] H H' → SqT K H' r [.int (lowP (f.1 * s.1) (f.2 * s.2)).1, .int (lowP (f.1 * s.1) (f.2 * s.2)).2] → Q (.ref r) H'
theorem ok_times (T : Txt K mg A D) : FnOk P w K mg base CX0 2 (A 4) (D 4) ["first", "second"] (sp_times K) := by
  refine T.F_times.ok sc_times (fun vs H Q E h => ?_) (fun cdv A' outer s H vs Q E hr h => ?_)
  · obtain ⟨v, v', f, s', rfl, hf, hs, gf, gs, q⟩ := h
    rfl
  · obtain ⟨v, v', f, s', rfl, hf, hs, gf, gs, q⟩ := h
    have hu := hu_of hr
    have G_ratio : FnOk P w K mg base CX0 1 (A 2) (D 2) ["top", "bottom"] (sp_ratio K) := ok_ratio T
    refine ⟨_, (pss_one (ps_ret (pe_call G_ratio (hr.mono (by decide)) rfl T.g_ratio T.F_ratio.kp T.b_ratio .nil pass0 (pa_cons (pe_op op_mulW (pe_ix (xK_tup (K := K) rfl) (pv 0) pe_int (fun _ _ => rfl)) (pe_ix (xK_tup (K := K) rfl) (pv 1) pe_int (fun _ _ => rfl))) (pa_cons (pe_op op_mulW (pe_ix (xK_tup (K := K) rfl) (pv 0) pe_int (fun _ _ => rfl)) (pe_ix (xK_tup (K := K) rfl) (pv 1) pe_int (fun _ _ => rfl))) pa_nil))))), ?_⟩
    obtain ⟨a, rfl, sa⟩ := prQ_inv hf
    obtain ⟨b, rfl, sb⟩ := prQ_inv hs
    walk_at "st"
    exact ⟨_, rfl, a, _, 0, _, rfl, rfl, sa, rfl, _, rfl, b, _, 0, _, rfl, rfl, sb, rfl, _, _, rfl, rfl, gf.t.cmul gs.t (by decide) (by decide) (by decide), _, rfl, a, _, 1, _, rfl, rfl, sa, rfl, _, rfl, b, _, 1, _, rfl, rfl, sb, rfl, _, _, rfl, rfl, gf.b.cmul gs.b (by decide) (by decide) (by decide), _, _, rfl, Int.ne_of_gt (Int.mul_pos gf.p gs.p), (gf.b.mul gs.b).le (by decide), q⟩
def sp_quotient (K : PySem.W.Frag) : Sp := fun vs H Q _ => ∃ (v v' : V) (f s : Int × Int), vs = [v, v'] ∧ Fd K H 1 v (prQ f) ∧ Fd K H 1 v' (prQ s) ∧ GQ f ∧ GQ s ∧ s.1 ≠ 0 ∧ ∀ r H', Kp [] H H' → SqT K H' r [.int (lowP (f.1 * s.2) (f.2 * s.1)).1, .int (lowP (f.1 * s.2) (f.2 * s.1)).2] → Q (.ref r) H'
theorem ok_quotient (T : Txt K mg A D) : FnOk P w K mg base CX0 2 (A 5) (D 5) ["first", "second"] (sp_quotient K) := by
  refine T.F_quotient.ok sc_quotient (fun vs H Q E h => ?_) (fun cdv A' outer s H vs Q E hr h => ?_)
  · obtain ⟨v, v', f, s', rfl, hf, hs, gf, gs, s0, q⟩ := h
    rfl
  · obtain ⟨v, v', f, s', rfl, hf, hs, gf, gs, s0, q⟩ := h
    have hu := hu_of hr
    have G_ratio : FnOk P w K mg base CX0 1 (A 2) (D 2) ["top", "bottom"] (sp_ratio K) := ok_ratio T
    refine ⟨_, (pss_one (ps_ret (pe_call G_ratio (hr.mono (by decide)) rfl T.g_ratio T.F_ratio.kp T.b_ratio .nil pass0 (pa_cons (pe_op op_mulW (pe_ix (xK_tup (K := K) rfl) (pv 0) pe_int (fun _ _ => rfl)) (pe_ix (xK_tup (K := K) rfl) (pv 1) pe_int (fun _ _ => rfl))) (pa_cons (pe_op op_mulW (pe_ix (xK_tup (K := K) rfl) (pv 0) pe_int (fun _ _ => rfl)) (pe_ix (xK_tup (K := K) rfl) (pv 1) pe_int (fun _ _ => rfl))) pa_nil))))), ?_⟩
    obtain ⟨a, rfl, sa⟩ := prQ_inv hf
    obtain ⟨b, rfl, sb⟩ := prQ_inv hs
    walk_at "st"
    exact ⟨_, rfl, a, _, 0, _, rfl, rfl, sa, rfl, _, rfl, b, _, 1, _, rfl, rfl, sb, rfl, _, _, rfl, rfl, gf.t.cmul gs.b (by decide) (by decide) (by decide), _, rfl, a, _, 1, _, rfl, rfl, sa, rfl, _, rfl, b, _, 0, _, rfl, rfl, sb, rfl, _, _, rfl, rfl, gf.b.cmul gs.t (by decide) (by decide) (by decide), _, _, rfl, Int.mul_ne_zero (Int.ne_of_gt gf.p) s0, (gf.b.mul gs.t).le (by decide), q⟩
def sp_is_below (K : PySem.W.Frag) : Sp := fun vs H Q _ => ∃ (v v' : V) (f s : Int × Int), vs = [v, v'] ∧ Fd K H 1 v (prQ f) ∧ Fd K H 1 v' (prQ s) ∧ GQ f ∧ GQ s ∧ Q (.bl (decide (f.1 * s.2 < s.1 * f.2))) H
theorem ok_is_below (T : Txt K mg A D) : FnOk P w K mg base CX0 1 (A 6) (D 6) ["first", "second"] (sp_is_below K) := by
  refine T.F_is_below.ok sc_is_below (fun vs H Q E h => ?_) (fun cdv A' outer s H vs Q E hr h => ?_)
  · obtain ⟨v, v', f, s', rfl, hf, hs, gf, gs, q⟩ := h
    rfl
  · obtain ⟨v, v', f, s', rfl, hf, hs, gf, gs, q⟩ := h
    have hu := hu_of hr
    refine ⟨_, (pss_one (ps_ret (pe_cmpR op_lt (pe_op op_mulW (pe_ix (xK_tup (K := K) rfl) (pv 0) pe_int (fun _ _ => rfl)) (pe_ix (xK_tup (K := K) rfl) (pv 1) pe_int (fun _ _ => rfl))) (pe_op op_mulW (pe_ix (xK_tup (K := K) rfl) (pv 1) pe_int (fun _ _ => rfl)) (pe_ix (xK_tup (K := K) rfl) (pv 0) pe_int (fun _ _ => rfl))) (nomark _)))), ?_⟩
    obtain ⟨a, rfl, sa⟩ := prQ_inv hf
    obtain ⟨b, rfl, sb⟩ := prQ_inv hs
    walk_at "st"
    exact ⟨_, rfl, a, _, 0, _, rfl, rfl, sa, rfl, _, rfl, b, _, 1, _, rfl, rfl, sb, rfl, _, _, rfl, rfl, gf.t.cmul gs.b (by decide) (by decide) (by decide), _, rfl, b, _, 0, _, rfl, rfl, sb, rfl, _, rfl, a, _, 1, _, rfl, rfl, sa, rfl, _, _, rfl, rfl, gs.t.cmul gf.b (by decide) (by decide) (by decide), _, _, rfl, rfl, q⟩
/-- a dict of ratios -/
def RatD (K : PySem.W.Frag) (H : Hp) (d : Addr) (ρ : Str → Int × Int) (ns : List Str) : Prop := ∃ kvs : List (Key × V), H d = some (.dK kvs) ∧ ∀ n ∈ ns, ∃ v, valV kvs (.inr n) = some v ∧ Fd K H 1 v (prQ (ρ n))
def lowT (p : Str × Int) (ρ : Str → Int × Int) : Int × Int := lowP (p.2 * (ρ p.1).1) (1 * (ρ p.1).2)
def sp_ratio_at (K : PySem.W.Frag) : Sp := fun vs H Q _ => ∃ (v : V) (d : Addr) (ts : List (Str × Int)) (ρ : Str → Int × Int), vs = [v, .ref d] ∧ Fd K H 2 v (prsD ts) ∧ ts.length ≤ 6 ∧ RatD K H d ρ (ts.map (·.1)) ∧ (∀ p ∈ ts, Sm 100 p.2 ∧ Sm 100 (ρ p.1).1 ∧ Sm 100 (ρ p.1).2 ∧ 0 < (ρ p.1).2) ∧
  ∀ r H', Kp [] H H' → SqT K H' r [.int (lowP (tot (ts.map fun p => lowT p ρ)).1 (tot (ts.map fun p => lowT p ρ)).2).1, .int (lowP (tot (ts.map fun p => lowT p ρ)).1 (tot (ts.map fun p => lowT p ρ)).2).2] → Q (.ref r) H'
theorem ok_ratio_at (T : Txt K mg A D) : FnOk P w K mg base CX0 3 (A 7) (D 7) ["terms", "assignment"] (sp_ratio_at K) := by
  refine T.F_ratio_at.ok sc_ratio_at (fun vs H Q E h => ?_) (fun cdv A' outer s H vs Q E hr h => ?_)
  · obtain ⟨v, d, ts, ρ, rfl, hv, hl, hd, hg, q⟩ := h
    rfl
  · obtain ⟨v, d, ts, ρ, rfl, hv, hl, hd, hg, q⟩ := h
    have hu := hu_of hr
    have G_times : FnOk P w K mg base CX0 2 (A 4) (D 4) ["first", "second"] (sp_times K) := ok_times T
    have G_total : FnR P w K mg base CX0 2 (A 3) (star 0 (sp_total K)) := ok_total T
    refine ⟨_, (pss_cons (ps_setLc (i := 2) (own := [("name", 3), ("coefficient", 4)])  (tt := tYes) rfl sc_ratio_at.nd rfl rfl (sw_true rfl rfl rfl (by decide +kernel))  (iK_tup (K := K) rfl (pv 0)) (blkOk_by (N := N_ratio_at) (sc := defScope (topS 7)) (by decide +kernel)) (fun _ _ _ _ _ => (gK_tup (K := K) 2 rfl rfl (pgs_cons (pg_name (i := 3) sc_ratio_at.nd rfl (Or.inl rfl)) (pgs_cons (pg_name (i := 4) sc_ratio_at.nd rfl (Or.inl rfl)) pgs_nil)))) (fun _ _ _ _ _ => pts_nil) (fun _ _ _ _ _ => (pe_call G_times (hr.mono (by decide)) rfl T.g_times T.F_times.kp T.b_times .nil pass0 (pa_cons (pe_tup (pa_cons (pv 4) (pa_cons pe_int pa_nil))) (pa_cons (pe_dget hu (pv 1) (pv 3) (fun _ _ => rfl)) pa_nil)))))
      (pss_one (ps_ret (StX.pe_callS1 G_total (hr.mono (by decide)) T.F_total.kp rfl T.g_total pass0 (pv 2))))), ?_⟩
    obtain ⟨t, xs, rfl, st, ft⟩ := hv.tup_inv
    obtain ⟨kvs, hk, hd⟩ := hd
    have ln : xs.length = ts.length := by rw [ft.length, List.length_map]
    have gq : ∀ p ∈ ts, GQ (lowT p ρ) := fun p hp => by
      obtain ⟨b1, b2, b3, b4⟩ := hg p hp
      exact lowP_gq (by rw [Int.one_mul]; exact b4) ((b1.mul b2).le (by decide)) (by rw [Int.one_mul]; exact b3.le (by decide))
    walk_at "st"
    refine ⟨_, rfl, t, rfl, ⟨_, st⟩, fun D hD => lc_it walk_tup (fun i H' => PvF [] K 1 H D (((ts.take i).map fun p => lowT p ρ).map prQ) H') (pvF_0 hD) (fun i H' _ z => z.kp.sqT st) ?_ ?_⟩
    · rintro i w H1 H2 hi pv ⟨rfl, hw⟩
      obtain ⟨p, hp, fp⟩ := ft.atm hw
      obtain ⟨b, rfl, sb⟩ := prD_inv (fp.kp pv.kp)
      have pm := List.mem_of_getElem? hp
      obtain ⟨b1, b2, b3, b4⟩ := hg p pm
      obtain ⟨v, hvv, fv⟩ := hd p.1 (List.mem_map_of_mem pm)
      refine ⟨b, _, rfl, sb, rfl, _, _, rfl, gnK ⟨_, _, rfl, gnK ⟨rfl, rfl, ?_⟩⟩⟩
      refine yesK ?_
      refine iteT ?_
      refine ⟨_, rfl, sz (by simp), fun u hu => ?_⟩
      have ku := Kp.new (A := []) (o := .tup [.int p.2, .int 1]) hu
      have k2 := (pv.kp.trans ku).get hk (.inl List.not_mem_nil)
      refine ⟨_, rfl, _, rfl, d, v, rfl, hvv ▸ DGet.k (k := Sum.inr p.1) k2, .ref u, v, (p.2, 1), ρ p.1, rfl, prQ_fd (SqT.of upd_same), fv.kp (pv.kp.trans ku), ⟨b1.le (by decide), Nat.lt_of_lt_of_le (by decide : 1 < 2 ^ 1) (Nat.pow_le_pow_right (by decide) (by decide)), (by show (0 : Int) < 1; decide)⟩, ⟨b2.le (by decide), b3.le (by decide), b4⟩, fun r H' k s => ?_⟩
      obtain ⟨acc, c1, c2, c3⟩ := pv.step (ku.trans k) List.not_mem_nil hD (by rw [List.length_map, List.length_map, List.length_take]; omega) (prQ_fd (n := 0) (q := lowT p ρ) s)
      refine ⟨acc, c1, c2, c3.to ?_⟩
      rw [tk_map hp, List.map_append]; rfl
    rintro H1 pv
    obtain ⟨acc, c1, c2⟩ := pv.ex
    rw [ln, List.take_length] at c2
    walk_at "st"
    have al : acc.length = ts.length := by rw [c2.length, List.length_map, List.length_map]
    refine ⟨_, rfl, D, acc, rfl, .inr (SqL.of c1), [], acc, rfl, rfl, sz (by omega), fun p hp => ?_⟩
    have kp := Kp.new (A := []) (o := .tup acc) hp
    refine ⟨p, acc, _, rfl, SqT.of upd_same, c2.kp kp, ⟨by rw [List.length_map]; exact hl, fun x hx => ?_⟩, fun r H' k s => q r H' (pv.kp.trans (kp.trans k)) s⟩
    obtain ⟨p', hp', rfl⟩ := List.mem_map.mp hx
    exact gq p' hp'
def sp_collected (K : PySem.W.Frag) : Sp := fun vs H Q _ => ∃ (a : Addr) (xs : List V) (ts : List (Str × Int)), vs = [.ref a] ∧ Sq K H a xs ∧ FdAll K H 1 xs (ts.map prD) ∧ inP ts ∧ ts.length ≤ 100 ∧ ∀ p H', Kp [] H H' → Fd K H' 2 (.ref p) (prsD (trm (sumN ts))) → Q (.ref p) H'
theorem ok_collected (T : Txt K mg A D) : FnOk P w K mg base CX0 1 (A 9) (D 9) ["terms"] (sp_collected K) := by
  refine T.F_collected.ok sc_collected (fun vs H Q E h => ?_) (fun cdv A' outer s H vs Q E hr h => ?_)
  · obtain ⟨a, xs, ts, rfl, hq, hd, hp, hl, q⟩ := h
    rfl
  · obtain ⟨a, xs, ts, rfl, hq, hd, hp, hl, q⟩ := h
    have hu := hu_of hr
    refine ⟨_, (pss_cons (ps_set (i := 1) sc_collected.nd rfl (Or.inr rfl) pe_dnewK)
      (pss_cons (ps_for PassesOwn.never rfl (pi_or (iK_list (K := K) rfl (pv 0)) (iK_tup (K := K) rfl (pv 0))) (gK_tup (K := K) 2 rfl rfl (pgs_cons (pg_name (i := 2) sc_collected.nd rfl (Or.inl rfl)) (pgs_cons (pg_name (i := 3) sc_collected.nd rfl (Or.inl rfl)) pgs_nil)))
        (pss_one (ps_dput hu (pv 1) (pv 2) (pe_op op_add (pe_dget2 hu (pv 1) (pv 2) pe_int ⟨rfl, rfl, rfl, rfl⟩) (pv 3)) rfl)))
      (pss_one (ps_ret (pe_callTy (T := "tuple") (cK_tuple (K := K) rfl) (by rfl) T.z_tuple (by decide +kernel) (pa_cons (pe_lc (own := [("name", 2)]) (g := gName 2)  rfl sc_collected.nd (iK_list (K := K) rfl (pe_callB (id := "sorted") (cK_sortedS (K := K) rfl) (by rfl) T.z_sorted (by decide +kernel) (pa_cons (pe_callTy (T := "list") (call_listD rfl) (by rfl) T.z_list (by decide +kernel) (pa_cons (pv 1) pa_nil)) pa_nil))) (blkOk_by (N := N_collected) (sc := defScope (topS 9)) (by decide +kernel)) (fun _ _ _ _ _ => (pg_name (i := 2) sc_collected.nd rfl (Or.inl rfl))) (fun _ _ _ _ _ => (pts_one (pt_cmpR op_ne (pe_dget hu (pv 1) (pv 2) (fun _ _ => rfl)) pe_int (nomark _)))) (fun _ _ _ _ _ => (pe_tup (pa_cons (pv 2) (pa_cons (pe_dget hu (pv 1) (pv 2) (fun _ _ => rfl)) pa_nil))))) pa_nil)))))), ?_⟩
    walk_at "st"
    intro d hd0
    try dsimp only
    have kd : Kp [] H (upd H d (.dK [])) := Kp.new hd0
    refine seq_forK ?_
    refine sq_var2 rfl kd hq fun J G hG wk => for_seq wk (fun i σ H' => (∃ v2 v3 : Option V, σ = [some (.ref a), some (.ref d), v2, v3]) ∧ ∃ kvs : List (Key × V), H' d = some (.dK kvs) ∧ Mgd kvs ((ts.take i).map (·.1)) ∧ (∀ n, n ∈ (ts.take i).map (·.1) → valV kvs (.inr n) = some (.int (sumN (ts.take i) n))) ∧ Kp [] H H') ⟨⟨_, _, rfl⟩, [], upd_same, ⟨List.nodup_nil, fun x => by simp [keysOf]⟩, fun n hn => by simp at hn, kd⟩ (fun i σ H' _ z => by obtain ⟨_, _, _, _, _, k⟩ := z; exact hG _ k) ?_ ?_
    · rintro i v σ H1 H2 hi ⟨⟨v2, v3, rfl⟩, kvs, e1, m1, s1, k1⟩ ⟨rfl, hv⟩
      obtain ⟨p, hp', fp⟩ := hd.atm hv
      obtain ⟨b, rfl, sb⟩ := prD_inv (fp.kp k1)
      have lk := mem_keys_len m1
      rw [List.length_map, List.length_take] at lk
      refine ⟨b, _, rfl, sb, rfl, _, _, rfl, gnK ⟨_, _, rfl, gnK ⟨rfl, ?_⟩⟩⟩
      dsimp only
      have eo : ((valV kvs (.inr p.1)).getD (.int 0)) = .int (sumN (ts.take i) p.1) := by
        by_cases c : p.1 ∈ (ts.take i).map (·.1)
        · rw [s1 _ c]; rfl
        · have : valV kvs (.inr p.1) = none := by
            cases e : valV kvs (.inr p.1) with
            | none => rfl
            | some v =>
              refine absurd ?_ c
              obtain ⟨t, ht, q⟩ := (m1.mem (.inr p.1)).mp (by
                have h2 : (valV kvs (.inr p.1)).isSome = true := by rw [e]; rfl
                rw [← valV_any, List.any_eq_true] at h2
                obtain ⟨r, hr, er⟩ := h2
                exact List.mem_map.mpr ⟨r, hr, by simpa using er⟩)
              cases q; exact ht
          rw [this, sumN_out c]; rfl
      have st : ∀ n, sumN (ts.take (i + 1)) n = sumN (ts.take i) n + p.2 * ind n p.1 := sumN_take hp'
      refine ⟨_, rfl, d, rfl, .inl ⟨_, .inl e1⟩, _, rfl, _, DGet.k (k := Sum.inr p.1) e1, _, rfl, _, _, eo, rfl, _, rfl, _, rfl, d, _, rfl, DPut.k (k := Sum.inr p.1) e1 (szl (by omega)), ?_⟩
      have tk : (ts.take (i + 1)).map (·.1) = (ts.take i).map (·.1) ++ [p.1] := tk_map hp'
      refine ⟨⟨_, _, rfl⟩, _, upd_same, by rw [tk]; exact m1.put, fun n hn => ?_, k1.put hd0⟩
      rw [valV_put, st n]
      by_cases c : n = p.1
      · rw [c, if_pos rfl]; simp [ind]
      · have c' : ¬ (Sum.inr n : Key) = Sum.inr p.1 := fun q => c (Sum.inr.inj q)
        have c'' : ¬ p.1 = n := fun q => c q.symm
        rw [if_neg c', s1 n ?_]
        · simp [ind, c'']
        · rw [tk, List.mem_append] at hn
          exact hn.resolve_right fun q => c (List.mem_singleton.mp q)
    rintro σ H1 ⟨⟨v2, v3, rfl⟩, kvs, e1, m1, s1, k1⟩
    rw [hd.length, List.length_map, List.take_length] at m1 s1
    obtain ⟨ks, ek, nd, mk⟩ := m1.keys
    have el : (kvs.map fun kv => kV kv.1) = ks.map V.str := by
      have := congrArg (List.map kV) ek
      rw [keysOf, List.map_map, List.map_map] at this
      exact this
    have kp5 : ks.length ≤ 5 := nodup_short (m := poolS) nd fun x hx => by
      obtain ⟨p, hp', rfl⟩ := List.mem_map.mp ((mk x).mp hx)
      exact hp p hp'
    walk_at "st"
    refine ⟨_, rfl, d, kvs, rfl, .inl e1, fun l hl' => ?_⟩
    rw [el]
    refine ⟨l, ks, rfl, SqL.of upd_same, by omega, fun ys t perm srt ht => ?_⟩
    have asc := asc_of_sorted srt (perm.nodup_iff.mpr nd)
    have mem : ∀ x, x ∈ ys ↔ x ∈ ts.map (·.1) := fun x => (perm.mem_iff).trans (mk x)
    have yl : ys.length ≤ 5 := by rw [perm.length_eq]; exact kp5
    have k2 := (k1.trans (Kp.new (o := .lst (ks.map V.str)) hl')).trans (Kp.new (o := .lst (ys.map V.str)) ht)
    have e2 := ((Kp.new (A := []) (o := .lst (ks.map V.str)) hl').trans (Kp.new (o := .lst (ys.map V.str)) ht)).get e1 (.inl List.not_mem_nil)
    have t2 : (upd (upd H1 l (.lst (ks.map V.str))) t (.lst (ys.map V.str))) t = some (.lst (ys.map V.str)) := upd_same
    generalize upd (upd H1 l (.lst (ks.map V.str))) t (.lst (ys.map V.str)) = H2 at k2 e2 t2
    refine ⟨t, rfl, ⟨_, SqL.of t2⟩, fun D hD => lc_it walk_list (fun j H' => PvF [] K 1 H2 D ((((ys.take j).filter fun n => decide (sumN ts n ≠ 0)).map fun n => (n, sumN ts n)).map prD) H') (pvF_0 hD) (fun j H' _ z => z.kp.sqL List.not_mem_nil (SqL.of t2)) ?_ ?_⟩
    · rintro j x H3 H4 hj pv ⟨rfl, hx⟩
      rw [List.getElem?_map] at hx
      obtain ⟨n, hn, rfl⟩ := Option.map_eq_some_iff.mp hx
      have e4 := pv.kp.get e2 (.inl List.not_mem_nil)
      have vn := s1 n ((mem n).mp (List.mem_of_getElem? hn))
      have gt : DGet H4 d (.str n) (some (.int (sumN ts n))) := vn ▸ DGet.k (k := Sum.inr n) e4
      refine gnK ⟨rfl, ?_⟩
      refine ⟨_, rfl, _, rfl, d, _, rfl, gt, rfl, _, rfl, ?_⟩
      have fl : (((ys.take j).filter fun n => decide (sumN ts n ≠ 0)).map fun n => (n, sumN ts n)).length ≤ 5 := by have := tk_filLen (p := fun n => decide (sumN ts n ≠ 0)) (g := fun n => (n, sumN ts n)) (xs := ys) j; omega
      refine ite2 (fun c => ?_) (fun c => ?_)
      · have c' : decide (sumN ts n ≠ 0) = true := by simpa using c
        refine ⟨_, rfl, _, rfl, _, rfl, d, _, rfl, gt, sz (by simp), fun u hu => ?_⟩
        obtain ⟨acc, c1, c2, c3⟩ := pv.step (Kp.new (A := []) (o := .tup [.str n, .int (sumN ts n)]) hu) List.not_mem_nil hD (by rw [List.length_map]; omega) (pr_fd (n := 0) (SqT.of upd_same))
        refine ⟨acc, c1, c2, c3.to ?_⟩
        rw [tk_filT hn c', List.map_append]; rfl
      · have c' : decide (sumN ts n ≠ 0) = false := by simpa using c
        exact pv.to (by rw [tk_filF hn c'])
    rintro H3 pv
    obtain ⟨acc, c1, c2⟩ := pv.ex
    rw [List.length_map, List.take_length, names_pool asc mem hp] at c2
    refine ⟨D, acc, rfl, .inl ⟨SqL.of c1, fun u hu => ?_⟩⟩
    have ku := Kp.new (A := []) (o := .tup acc) hu
    exact q u _ (k2.trans (pv.kp.trans ku)) (.tup (SqT.of upd_same) (c2.kp ku))
def lts (a b : Str) : Bool := decide (slt a b)
/-- the k-th of the terms stands right -/
def okAt (ts : List (Str × Int)) (k : Nat) : Bool := match ts[k]? with
  | some p => decide (p.2 ≠ 0) && (k == 0 || (match ts[k - 1]? with | some r => lts r.1 p.1 | none => false))
  | none => true
def okT (ts : List (Str × Int)) : Bool := (List.range ts.length).all (okAt ts)
def sp_is_terms (K : PySem.W.Frag) : Sp := fun vs H Q _ => ∃ (v : V) (ts : List (Str × Int)), vs = [v] ∧ Fd K H 2 v (prsD ts) ∧ ts.length ≤ 100 ∧ (∀ p ∈ ts, p.1.length ≤ 1000) ∧ Q (.bl (okT ts)) H
theorem ok_is_terms (T : Txt K mg A D) : FnOk P w K mg base CX0 1 (A 10) (D 10) ["terms"] (sp_is_terms K) := by
  refine T.F_is_terms.ok sc_is_terms (fun vs H Q E h => ?_) (fun cdv A' outer s H vs Q E hr h => ?_)
  · obtain ⟨v, ts, rfl, hv, hl, hw, q⟩ := h
    rfl
  · obtain ⟨v, ts, rfl, hv, hl, hw, q⟩ := h
    have hu := hu_of hr
    refine ⟨_, (pss_cons (ps_for PassesOwn.never rfl (pi_range1 rfl T.z_range (pa_cons (pe_callB (id := "len") (cK_len (K := K) rfl) (by rfl) T.z_len (by decide +kernel) (pa_cons (pv 0) pa_nil)) pa_nil)) (pg_name (i := 1) sc_is_terms.nd rfl (Or.inl rfl))
        (pss_one (ps_if (PW.pt (pw_or (pt_cmpR op_eq (pe_ix (xK_tup (K := K) rfl) (pe_ix (xK_tup (K := K) rfl) (pv 0) (pv 1) (fun _ _ => rfl)) pe_int (fun _ _ => rfl)) pe_int (nomark _)) (pw_or1 (PW.pt (pw_and (pt_cmpR op_gt (pv 1) pe_int (nomark _)) (pw_and1 (pt_cmpR op_ge_str (pe_ix (xK_tup (K := K) rfl) (pe_ix (xK_tup (K := K) rfl) (pv 0) (pe_op op_sub (pv 1) pe_int) (fun _ _ => rfl)) pe_int (fun _ _ => rfl)) (pe_ix (xK_tup (K := K) rfl) (pe_ix (xK_tup (K := K) rfl) (pv 0) (pv 1) (fun _ _ => rfl)) pe_int (fun _ _ => rfl)) (nomark _))))))))
          (pss_one (ps_ret pe_bl))
          pss_nil)))
      (pss_one (ps_ret pe_bl))), ?_⟩
    obtain ⟨a, xs, rfl, ha, hd⟩ := hv.tup_inv
    have ln : xs.length = ts.length := by rw [hd.length, List.length_map]
    have get : ∀ {j : Nat} {p : Str × Int} {i : Int}, ts[j]? = some p → i = (j : Int) → ∃ b, atI xs i = some (.ref b) ∧ SqT K H b [.str p.1, .int p.2] := fun hj ei => by
      obtain ⟨v, hv, fv⟩ := hd.atm' hj
      obtain ⟨b, rfl, sb⟩ := prD_inv fv
      exact ⟨b, atI_nat' hv ei, sb⟩
    refine seq_forK ⟨_, rfl, _, ts.length, rfl, .inr ⟨_, ha, ln.symm⟩, _, rfl, by omega, by omega, for_seq walk_range (fun i σ H' => (∃ v1 : Option V, σ = [some (.ref a), v1]) ∧ H' = H ∧ ∀ j, j < i → okAt ts j = true) ⟨⟨_, rfl⟩, rfl, fun j h => absurd h (Nat.not_lt_zero _)⟩ (fun _ _ _ _ _ => trivial) ?_ ?_⟩
    · rintro i w σ H1 H2 hi ⟨⟨v1, rfl⟩, rfl, hall⟩ ⟨rfl, rfl⟩
      have hi' : i < ts.length := hi
      obtain ⟨p, hp⟩ : ∃ p, ts[i]? = some p := ⟨_, List.getElem?_eq_getElem hi'⟩
      obtain ⟨b, eb, sb⟩ := get (i := 0 + (i : Int)) hp (by simp)
      have no : okAt ts i = false → okT ts = false := fun h => by
        unfold okT
        rw [List.all_eq_false]
        exact ⟨i, List.mem_range.mpr hi', by rw [h]; decide⟩
      have yes : okAt ts i = true → ∀ j, j < i + 1 → okAt ts j = true := fun h j hj => by
        rcases Nat.lt_succ_iff_lt_or_eq.mp hj with z | z
        · exact hall j z
        · rw [z]; exact h
      refine gnK ?_
      refine if_anK ?_
      refine ⟨_, rfl, _, rfl, a, xs, _, _, rfl, rfl, ha, eb, b, _, 1, _, rfl, rfl, sb, rfl, rfl, _, rfl, ?_⟩
      refine ite2 (fun c => ?_) (fun c => ?_)
      · have c' : p.2 = 0 := by simpa using c
        refine iteT ?_
        walk_at "st"
        rw [no (by unfold okAt; rw [hp]; simp [c'])] at q
        exact q
      · have c' : p.2 ≠ 0 := by simpa using c
        refine ⟨_, rfl, _, _, rfl, rfl, _, rfl, ?_⟩
        refine ite2 (fun e => ?_) (fun e => ?_)
        · have e' : 0 < i := by simpa using e
          obtain ⟨r, hr⟩ : ∃ r, ts[i - 1]? = some r := ⟨_, List.getElem?_eq_getElem (by omega)⟩
          obtain ⟨b2, eb2, sb2⟩ := get (i := 0 + (i : Int) - 1) hr (by omega)
          refine ⟨_, rfl, _, rfl, _, _, rfl, rfl, a, xs, _, _, rfl, rfl, ha, eb2, b2, _, 0, _, rfl, rfl, sb2, rfl, _, rfl, _, rfl, a, xs, _, _, rfl, rfl, ha, eb, b, _, 0, _, rfl, rfl, sb, rfl, _, _, rfl, rfl, _, rfl, ?_⟩
          have i0 : (i == 0) = false := by simp; omega
          have eq : okAt ts i = lts r.1 p.1 := by unfold okAt; rw [hp, hr]; simp [c', i0]
          refine ite2 (fun g => ?_) (fun g => ?_)
          · walk_at "st"
            have g' : lts r.1 p.1 = false := by unfold lts slt TL.tl; simpa using g
            rw [no (by rw [eq]; exact g')] at q
            exact q
          · have g' : lts r.1 p.1 = true := by unfold lts slt TL.tl; simpa using g
            exact ⟨⟨_, rfl⟩, rfl, yes (by rw [eq]; exact g')⟩
        · have e'' : ¬ 0 < i := by simpa using e
          have e' : i = 0 := by omega
          refine iteF ?_
          exact ⟨⟨_, rfl⟩, rfl, yes (by unfold okAt; rw [hp]; simp [c', e'])⟩
    rintro σ H1 ⟨⟨v1, rfl⟩, rfl, hall⟩
    walk_at "st"
    have : okT ts = true := by
      unfold okT
      rw [List.all_eq_true]
      exact fun j hj => hall j (List.mem_range.mp hj)
    rw [this] at q
    exact q
def sp_Sum___init__ (K : PySem.W.Frag) (C : Addr) : Sp := fun vs H Q _ => ∃ (x dx a : Addr) (xs : List V) (ts : List (Str × Int)), vs = [.ref x, .ref a] ∧ H x = some (.ins C dx []) ∧ Sq K H a xs ∧ FdAll K H 1 xs (ts.map prD) ∧ inP ts ∧ ts.length ≤ 100 ∧ ∀ H', Kp [x] H H' → SumAt K C H' x (sumN ts) → Q .non H'
theorem ok_Sum___init__ (T : Txt K mg A D) : FnOk P w K mg base CX0 2 (A 1220) (D 1220) ["self", "terms"] (sp_Sum___init__ K (A 11)) := by
  refine T.F_Sum___init__.ok (CX := CX0) sc_Sum___init__ (fun vs H Q E h => ?_) (fun cdv A' outer s H vs Q E hr h => ?_)
  · obtain ⟨x, dx, a, xs, ts, rfl, hx, hq, hd, hp, hl, q⟩ := h
    rfl
  · obtain ⟨x, dx, a, xs, ts, rfl, hx, hq, hd, hp, hl, q⟩ := h
    have hu := hu_of hr
    have G_collected : FnOk P w K mg base CX0 1 (A 9) (D 9) ["terms"] (sp_collected K) := ok_collected T
    refine nox_ex ?_
    refine ⟨_, (pss_one (ps_fld (pv 0) (pe_call G_collected (hr.mono (by decide)) rfl T.g_collected T.F_collected.kp T.b_collected .nil pass0 (pa_cons (pv 1) pa_nil)) rfl)), ?_⟩
    refine ⟨_, rfl, a, xs, ts, rfl, hq, hd, hp, hl, fun p H1 k1 f1 => ?_⟩
    have x1 := k1.get hx (.inl List.not_mem_nil)
    refine ⟨_, rfl, x, A 11, dx, _, rfl, x1, T.cl_Sum, T.n_Sum_terms, by simp, ?_⟩
    have ko : Kp [x] H1 (upd H1 x (.ins (A 11) dx (putF "terms" (.ref p) []))) := Kp.own x1 rfl (by simp)
    exact q _ (k1.nil.trans ko) ⟨⟨dx, p, upd_same, f1.kp ko⟩⟩
/-- Sum(..) is made, then returned -/
theorem mk_sum {K : PySem.W.Frag} {C : Addr} {H H1 : Hp} {a : Addr} {xs : List V} {ts : List (Str × Int)} {R : V → Hp → Prop} {E : XK} (k0 : Kp [] H H1) (hq : Sq K H1 a xs) (hd : FdAll K H1 1 xs (ts.map prD)) (hp : inP ts) (hl : ts.length ≤ 100)
    (q : ∀ z H', Kp [] H H' → SumAt K C H' z (sumN ts) → R (.ref z) H') : ∀ x dx, H1 x = none → H1 dx = none → dx ≠ x → sp_Sum___init__ K C ((.ref x :: [.ref a]) ++ []) (upd (upd H1 dx (.own x)) x (.ins C dx [])) (fun v H2 => v = .non ∧ R (.ref x) H2) E := by
  intro x dx hx hdx ne
  have k1 : Kp [] H1 (upd (upd H1 dx (.own x)) x (.ins C dx [])) := (Kp.new hdx).trans (Kp.new (by rw [upd_ne (Ne.symm ne)]; exact hx))
  refine ⟨x, dx, a, xs, ts, rfl, upd_same, hq.imp (fun s => k1.sqL List.not_mem_nil s) (fun s => k1.sqT s), hd.kp k1, hp, hl, fun H' k s => ⟨rfl, q x H' (k0.trans ?_) s⟩⟩
  exact Kp.back hx (k1.nil.trans k)
def sp_Sum___len__ (K : PySem.W.Frag) (C : Addr) : Sp := fun vs H Q _ => ∃ (x : Addr) (f : Str → Int), vs = [.ref x] ∧ SumAt K C H x f ∧ Q (.int ((trm f).length : Nat)) H
theorem ok_Sum___len__ (T : Txt K mg A D) : FnOk P w K mg base CX0 1 (A 1221) (D 1221) ["self"] (sp_Sum___len__ K (A 11)) := by
  refine T.F_Sum___len__.ok sc_Sum___len__ (fun vs H Q E h => ?_) (fun cdv A' outer s H vs Q E hr h => ?_)
  · obtain ⟨x, f, rfl, hx, q⟩ := h
    rfl
  · obtain ⟨x, f, rfl, hx, q⟩ := h
    have hu := hu_of hr
    refine ⟨_, (pss_one (ps_ret (pe_callB (id := "len") (cK_len (K := K) rfl) (by rfl) T.z_len (by decide +kernel) (pa_cons (pe_fld (pv 0) rfl) pa_nil)))), ?_⟩
    obtain ⟨dx, t, h1, h2⟩ := hx.ex
    obtain ⟨t, xs, et, st, ft⟩ := h2.tup_inv
    cases et
    walk_at "st"
    exact ⟨_, rfl, x, A 11, dx, _, _, rfl, h1, T.cl_Sum, T.n_Sum_terms, rfl, _, (trm f).length, rfl, .inr ⟨_, st, by rw [ft.length, List.length_map]⟩, q⟩
theorem ok_Sum___iter__ (T : Txt K mg A D) : FnSz P w K mg base CX0 1 (A 1222) (D 1222) ["self"] (spIt K (sumC (A 11))) := by
  obtain ⟨oc0, od0, kV0, doc0, pm0, an0, cdv, ct0, osl0, e0, lk, hcd⟩ := T.F_Sum___iter__.ex
  rw [e0] at lk
  rw [e0]
  refine fn_sz lk hcd sc_Sum___iter__ (fun n vs H Q E h => ?_) (fun A' outer s H vs Q E hr h => ?_)
  · obtain ⟨x, t, zs, rfl, ht, hz, q⟩ := h
    rfl
  · obtain ⟨x, t, zs, rfl, ht, hz, q⟩ := h
    have hu := hu_of hr
    refine ⟨_, (pss_one (ps_ret (pe_callB (id := "iter") call_iterT (by rfl) T.z_iter (by decide +kernel) (pa_cons (pe_fld (pv 0) rfl) pa_nil)))), ?_⟩
    obtain ⟨dx, hx⟩ := ht
    walk_at "st"
    exact ⟨_, rfl, x, A 11, dx, _, _, rfl, hx, T.cl_Sum, T.n_Sum_terms, rfl, t, zs, rfl, hz, fun it h0 hn => q it h0 hn⟩
def sp_Sum___contains__ (K : PySem.W.Frag) (C : Addr) : Sp := fun vs H Q _ => ∃ (x : Addr) (f : Str → Int) (n : Str), vs = [.ref x, .str n] ∧ SumAt K C H x f ∧ n ∈ poolS ∧ ∀ H', Kp [] H H' → Q (.bl (decide (f n ≠ 0))) H'
theorem ok_Sum___contains__ (T : Txt K mg A D) : FnOk P w K mg base CX0 1 (A 1223) (D 1223) ["self", "name"] (sp_Sum___contains__ K (A 11)) := by
  refine T.F_Sum___contains__.ok sc_Sum___contains__ (fun vs H Q E h => ?_) (fun cdv A' outer s H vs Q E hr h => ?_)
  · obtain ⟨x, f, n, rfl, hx, hn, q⟩ := h
    rfl
  · obtain ⟨x, f, n, rfl, hx, hn, q⟩ := h
    have hu := hu_of hr
    refine ⟨_, (pss_one (ps_ret (pe_cmpR (oK_in (K := K) rfl) (pv 1) (pe_lc (own := [("other", 2), ("_", 3)])  (tt := tYes) rfl sc_Sum___contains__.nd (iK_tup (K := K) rfl (pe_fld (pv 0) rfl)) (blkOk_by (N := N_Sum___contains__) (sc := defScope (topM 11 3)) (by decide +kernel)) (fun _ _ _ _ _ => (gK_tup (K := K) 2 rfl rfl (pgs_cons (pg_name (i := 2) sc_Sum___contains__.nd rfl (Or.inl rfl)) (pgs_cons (pg_name (i := 3) sc_Sum___contains__.nd rfl (Or.inl rfl)) pgs_nil)))) (fun _ _ _ _ _ => pts_nil) (fun _ _ _ _ _ => (pv 2))) rfl))), ?_⟩
    obtain ⟨dx, t, h1, h2⟩ := hx.ex
    obtain ⟨t, xs, et, st, ft⟩ := h2.tup_inv
    cases et
    have ln : xs.length = (trm f).length := by rw [ft.length, List.length_map]
    have l5 := trm_len f
    walk_at "st"
    refine ⟨_, rfl, _, rfl, x, A 11, dx, _, _, rfl, h1, T.cl_Sum, T.n_Sum_terms, rfl, t, rfl, ⟨_, st⟩, fun D hD => lc_it walk_tup (fun i H' => H' D = some (.lst ((((trm f).take i).map (·.1)).map V.str)) ∧ Kp [] H H') ⟨upd_same, Kp.new hD⟩ (fun i H' _ z => z.2.sqT st) ?_ ?_⟩
    · rintro i w H1 H2 hi ⟨e1, k1⟩ ⟨rfl, hw⟩
      obtain ⟨p, hp, fp⟩ := ft.atm hw
      obtain ⟨b, rfl, sb⟩ := prD_inv fp
      refine ⟨b, _, rfl, k1.sqT sb, rfl, _, _, rfl, gnK ⟨_, _, rfl, gnK ⟨rfl, rfl, ?_⟩⟩⟩
      refine yesK ?_
      refine iteT ?_
      refine ⟨_, rfl, _, e1, szl (by have := tk_len (g := fun p : Str × Int => p.1) (xs := trm f) i; rw [List.length_map]; omega), ?_, k1.put hD⟩
      rw [tk_map hp, List.map_append]; exact upd_same
    rintro H1 ⟨e1, k1⟩
    rw [ln, List.take_length] at e1
    refine ⟨D, _, rfl, .inl (SqL.of e1), rfl, flat_strs _, ?_⟩
    rw [if_neg Bool.false_ne_true, inV_strs]
    refine asB (q _ k1) ?_
    rw [decide_eq_decide]
    unfold trm
    rw [List.map_map]
    constructor
    · intro h
      exact List.mem_map.mpr ⟨n, List.mem_filter.mpr ⟨hn, by simpa using h⟩, rfl⟩
    · intro h
      obtain ⟨m, hm, rfl⟩ := List.mem_map.mp h
      simpa using (List.mem_filter.mp hm).2
def sp_Sum___getitem__ (K : PySem.W.Frag) (C : Addr) : Sp := fun vs H Q _ => ∃ (x : Addr) (f : Str → Int) (n : Str), vs = [.ref x, .str n] ∧ SumAt K C H x f ∧ n ∈ poolS ∧ Q (.int (f n)) H
theorem ok_Sum___getitem__ (T : Txt K mg A D) : FnOk P w K mg base CX0 1 (A 1224) (D 1224) ["self", "name"] (sp_Sum___getitem__ K (A 11)) := by
  refine T.F_Sum___getitem__.ok sc_Sum___getitem__ (fun vs H Q E h => ?_) (fun cdv A' outer s H vs Q E hr h => ?_)
  · obtain ⟨x, f, n, rfl, hx, hn, q⟩ := h
    rfl
  · obtain ⟨x, f, n, rfl, hx, hn, q⟩ := h
    have hu := hu_of hr
    refine ⟨_, (pss_cons (ps_for PassesOwn.never rfl (iK_tup (K := K) rfl (pe_fld (pv 0) rfl)) (gK_tup (K := K) 2 rfl rfl (pgs_cons (pg_name (i := 2) sc_Sum___getitem__.nd rfl (Or.inl rfl)) (pgs_cons (pg_name (i := 3) sc_Sum___getitem__.nd rfl (Or.inl rfl)) pgs_nil)))
        (pss_one (ps_if (pt_cmpR op_eq (pv 2) (pv 1) (nomark _))
          (pss_one (ps_ret (pv 3)))
          pss_nil)))
      (pss_one (ps_ret pe_int))), ?_⟩
    obtain ⟨dx, t, h1, h2⟩ := hx.ex
    obtain ⟨t, xs, et, st, ft⟩ := h2.tup_inv
    cases et
    have ln : xs.length = (trm f).length := by rw [ft.length, List.length_map]
    have l5 := trm_len f
    refine seq_forK ⟨_, rfl, x, A 11, dx, _, _, rfl, h1, T.cl_Sum, T.n_Sum_terms, rfl, t, rfl, ⟨_, st⟩, for_seq walk_tup (fun i σ H' => (∃ v2 v3 : Option V, σ = [some (.ref x), some (.str n), v2, v3]) ∧ H' = H ∧ ∀ (j : Nat) (p : Str × Int), j < i → (trm f)[j]? = some p → p.1 ≠ n) ⟨⟨_, _, rfl⟩, rfl, fun j p h => absurd h (Nat.not_lt_zero _)⟩ (fun i σ H' _ z => by rw [z.2.1]; exact st) ?_ ?_⟩
    · rintro i v σ H1 H2 hi ⟨⟨v2, v3, rfl⟩, rfl, hall⟩ ⟨rfl, hv⟩
      obtain ⟨p, hp, fp⟩ := ft.atm hv
      obtain ⟨b, rfl, sb⟩ := prD_inv fp
      refine ⟨b, _, rfl, sb, rfl, _, _, rfl, gnK ⟨_, _, rfl, gnK ⟨rfl, ?_⟩⟩⟩
      dsimp only
      refine if_anK ?_
      refine ⟨_, rfl, _, rfl, rfl, _, rfl, ?_⟩
      refine ite2 (fun e => ?_) (fun e => ?_)
      · have e' : p.1 = n := by simpa using e
        obtain ⟨m, hm, ep⟩ := List.mem_map.mp (List.mem_of_getElem? hp)
        walk_at "st"
        refine ⟨_, rfl, ?_⟩
        have : p.2 = f n := by rw [← ep] at e' ⊢; show f m = f n; rw [show m = n from e']
        rw [this]; exact q
      · have e' : p.1 ≠ n := by simpa using e
        refine ⟨⟨_, _, rfl⟩, rfl, fun j p' hj hp' => ?_⟩
        rcases Nat.lt_succ_iff_lt_or_eq.mp hj with z | z
        · exact hall j p' z hp'
        · subst z; rw [hp] at hp'; cases hp'; exact e'
    · rintro σ H1 ⟨⟨v2, v3, rfl⟩, rfl, hall⟩
      walk_at "st"
      have : f n = 0 := by
        by_cases e : f n = 0
        · exact e
        · have hm : (n, f n) ∈ trm f := List.mem_map.mpr ⟨n, List.mem_filter.mpr ⟨hn, by simpa using e⟩, rfl⟩
          obtain ⟨j, hj⟩ := List.getElem?_of_mem hm
          exact absurd rfl (hall j _ (by rw [ln]; exact (List.getElem?_eq_some_iff.mp hj).1) hj)
      rw [this] at q; exact q
def sp_Sum___add__ (K : PySem.W.Frag) (C : Addr) : Sp := fun vs H Q _ => ∃ (x y : Addr) (f g : Str → Int), vs = [.ref x, .ref y] ∧ SumAt K C H x f ∧ SumAt K C H y g ∧ ∀ z H', Kp [] H H' → SumAt K C H' z (fun n => f n + g n) → Q (.ref z) H'
theorem ok_Sum___add__ (T : Txt K mg A D) : FnOk P w K mg base CX0 4 (A 1225) (D 1225) ["self", "other"] (sp_Sum___add__ K (A 11)) := by
  refine T.F_Sum___add__.ok sc_Sum___add__ (fun vs H Q E h => ?_) (fun cdv A' outer s H vs Q E hr h => ?_)
  · obtain ⟨x, y, f, g, rfl, hx, hy, q⟩ := h
    rfl
  · obtain ⟨x, y, f, g, rfl, hx, hy, q⟩ := h
    have hu := hu_of hr
    have G_Sum___init__ : FnOk P w K mg base CX0 2 (A 1220) (D 1220) ["self", "terms"] (sp_Sum___init__ K (A 11)) := ok_Sum___init__ T
    refine ⟨_, (pss_one (ps_ret (pe_makeO T.mk_Sum G_Sum___init__ (hr.mono (by decide)) rfl T.g_Sum T.b_Sum___init__ .nil (pas0 pass0) (pa_cons (pe_op (oK_catA (K := K) rfl) (pe_fld (pv 0) rfl) (pe_fld (pv 1) rfl)) pa_nil)))), ?_⟩
    obtain ⟨dx, t, h1, h2⟩ := hx.ex
    obtain ⟨t, xs, et, st, ft⟩ := h2.tup_inv
    cases et
    obtain ⟨dy, u, g1, g2⟩ := hy.ex
    obtain ⟨u, ys, eu, su, gt⟩ := g2.tup_inv
    cases eu
    have l5 := trm_len f
    have l6 := trm_len g
    walk_at "st"
    refine ⟨_, rfl, x, A 11, dx, _, _, rfl, h1, T.cl_Sum, T.n_Sum_terms, rfl, _, rfl, y, A 11, dy, _, _, rfl, g1, T.cl_Sum, T.n_Sum_terms, rfl, ?_⟩
    refine catA st su (by rw [ft.length, gt.length, List.length_map, List.length_map]; omega) fun r H1 k1 s1 => ?_
    refine mk_sum (ts := trm f ++ trm g) k1 (.inr s1) (by rw [List.map_append]; exact (ft.kp k1).app (gt.kp k1)) (inP_app (trm_inP f) (trm_inP g)) (by rw [List.length_append]; omega) fun z H' k s => q z H' k (s.congr fun n hn => ?_)
    rw [sumN, wsum_app]
    show sumN (trm f) n + sumN (trm g) n = _
    rw [sumN_trm hn, sumN_trm hn]
def sp_Sum___neg__ (K : PySem.W.Frag) (C : Addr) : Sp := fun vs H Q _ => ∃ (x : Addr) (f : Str → Int), vs = [.ref x] ∧ SumAt K C H x f ∧ ∀ z H', Kp [] H H' → SumAt K C H' z (fun n => - f n) → Q (.ref z) H'
theorem ok_Sum___neg__ (T : Txt K mg A D) : FnOk P w K mg base CX0 4 (A 1226) (D 1226) ["self"] (sp_Sum___neg__ K (A 11)) := by
  refine T.F_Sum___neg__.ok sc_Sum___neg__ (fun vs H Q E h => ?_) (fun cdv A' outer s H vs Q E hr h => ?_)
  · obtain ⟨x, f, rfl, hx, q⟩ := h
    rfl
  · obtain ⟨x, f, rfl, hx, q⟩ := h
    have hu := hu_of hr
    have G_Sum___init__ : FnOk P w K mg base CX0 2 (A 1220) (D 1220) ["self", "terms"] (sp_Sum___init__ K (A 11)) := ok_Sum___init__ T
    refine ⟨_, (pss_one (ps_ret (pe_makeO T.mk_Sum G_Sum___init__ (hr.mono (by decide)) rfl T.g_Sum T.b_Sum___init__ .nil (pas0 pass0) (pa_cons (pe_lc (own := [("name", 1), ("coefficient", 2)])  (tt := tYes) rfl sc_Sum___neg__.nd (iK_tup (K := K) rfl (pe_fld (pv 0) rfl)) (blkOk_by (N := N_Sum___neg__) (sc := defScope (topM 11 6)) (by decide +kernel)) (fun _ _ _ _ _ => (gK_tup (K := K) 2 rfl rfl (pgs_cons (pg_name (i := 1) sc_Sum___neg__.nd rfl (Or.inl rfl)) (pgs_cons (pg_name (i := 2) sc_Sum___neg__.nd rfl (Or.inl rfl)) pgs_nil)))) (fun _ _ _ _ _ => pts_nil) (fun _ _ _ _ _ => (pe_tup (pa_cons (pv 1) (pa_cons (pe_un un_neg (pv 2)) pa_nil))))) pa_nil)))), ?_⟩
    obtain ⟨dx, t, h1, h2⟩ := hx.ex
    obtain ⟨t, xs, et, st, ft⟩ := h2.tup_inv
    cases et
    have ln : xs.length = (trm f).length := by rw [ft.length, List.length_map]
    have l5 := trm_len f
    walk_at "st"
    refine ⟨_, rfl, x, A 11, dx, _, _, rfl, h1, T.cl_Sum, T.n_Sum_terms, rfl, t, rfl, ⟨_, st⟩, fun D hD => lc_it walk_tup (fun i H' => PvF [] K 1 H D ((((trm f).take i).map fun p => (p.1, -p.2)).map prD) H') (pvF_0 hD) (fun i H' _ z => z.kp.sqT st) ?_ ?_⟩
    · rintro i w H1 H2 hi pv ⟨rfl, hw⟩
      obtain ⟨p, hp, fp⟩ := ft.atm hw
      obtain ⟨b, rfl, sb⟩ := prD_inv (fp.kp pv.kp)
      have pm := List.mem_of_getElem? hp
      refine ⟨b, _, rfl, sb, rfl, _, _, rfl, gnK ⟨_, _, rfl, gnK ⟨rfl, rfl, ?_⟩⟩⟩
      refine yesK ?_
      refine iteT ?_
      refine ⟨_, rfl, _, rfl, _, rfl, sz (by simp), fun u hu => ?_⟩
      obtain ⟨acc, c1, c2, c3⟩ := pv.step (Kp.new (A := []) (o := .tup [.str p.1, .int (-p.2)]) hu) List.not_mem_nil hD (by rw [List.length_map, List.length_map, List.length_take]; omega) (pr_fd (n := 0) (SqT.of upd_same))
      refine ⟨acc, c1, c2, c3.to ?_⟩
      rw [tk_map hp, List.map_append]; rfl
    rintro H1 pv
    obtain ⟨acc, c1, c2⟩ := pv.ex
    rw [ln, List.take_length] at c2
    refine mk_sum (ts := (trm f).map fun p => (p.1, -p.2)) pv.kp (.inl (SqL.of c1)) c2 (inP_map (trm_inP f) _) (by rw [List.length_map]; omega) fun z H' k s => q z H' k (s.congr fun n hn => ?_)
    rw [sumN_neg, sumN_trm hn]
def sp_Sum___sub__ (K : PySem.W.Frag) (C : Addr) : Sp := fun vs H Q _ => ∃ (x y : Addr) (f g : Str → Int), vs = [.ref x, .ref y] ∧ SumAt K C H x f ∧ SumAt K C H y g ∧ ∀ z H', Kp [] H H' → SumAt K C H' z (fun n => f n - g n) → Q (.ref z) H'
theorem ok_Sum___sub__ (T : Txt K mg A D) : FnOk P w K mg base CX0 5 (A 1227) (D 1227) ["self", "other"] (sp_Sum___sub__ K (A 11)) := by
  refine T.F_Sum___sub__.ok sc_Sum___sub__ (fun vs H Q E h => ?_) (fun cdv A' outer s H vs Q E hr h => ?_)
  · obtain ⟨x, y, f, g, rfl, hx, hy, q⟩ := h
    rfl
  · obtain ⟨x, y, f, g, rfl, hx, hy, q⟩ := h
    have hu := hu_of hr
    have G_Sum___add__ : FnOk P w K mg base CX0 4 (A 1225) (D 1225) ["self", "other"] (sp_Sum___add__ K (A 11)) := ok_Sum___add__ T
    have G_Sum___neg__ : FnOk P w K mg base CX0 4 (A 1226) (D 1226) ["self"] (sp_Sum___neg__ K (A 11)) := ok_Sum___neg__ T
    refine ⟨_, (pss_one (ps_ret (pe_opOO T.sf_Sum T.M_Sum___add__ G_Sum___add__ (hr.mono (by decide)) T.b_Sum___add__ (pas0 pass0) (pv 0) (pe_un (un_negO T.M_Sum___neg__ G_Sum___neg__ (hr.mono (by decide)) T.b_Sum___neg__ pass0) (pv 1))))), ?_⟩
    obtain ⟨dx, t, h1, h2⟩ := hx.ex
    obtain ⟨dy, u, g1, g2⟩ := hy.ex
    walk_at "st"
    refine ⟨_, rfl, _, rfl, y, dy, _, rfl, g1, y, g, rfl, hy, fun z H1 k1 s1 => ?_⟩
    obtain ⟨dz, u', z1, z2⟩ := s1.ex
    refine ⟨x, dx, _, z, dz, _, rfl, rfl, k1.get h1 (.inl List.not_mem_nil), z1, x, z, f, _, rfl, hx.kp k1 List.not_mem_nil, s1, fun r H' k s => q r H' (k1.trans k) (s.congr fun n _ => ?_)⟩
    omega
def sp_Sum___mul__ (K : PySem.W.Frag) (C : Addr) : Sp := fun vs H Q _ => ∃ (x : Addr) (f : Str → Int) (c : Int), vs = [.ref x, .int c] ∧ SumAt K C H x f ∧ (∀ n ∈ poolS, Sm 100 (f n)) ∧ Sm 100 c ∧ ∀ z H', Kp [] H H' → SumAt K C H' z (fun n => f n * c) → Q (.ref z) H'
theorem ok_Sum___mul__ (T : Txt K mg A D) : FnOk P w K mg base CX0 4 (A 1228) (D 1228) ["self", "factor"] (sp_Sum___mul__ K (A 11)) := by
  refine T.F_Sum___mul__.ok sc_Sum___mul__ (fun vs H Q E h => ?_) (fun cdv A' outer s H vs Q E hr h => ?_)
  · obtain ⟨x, f, c, rfl, hx, hf, hc, q⟩ := h
    rfl
  · obtain ⟨x, f, c, rfl, hx, hf, hc, q⟩ := h
    have hu := hu_of hr
    have G_Sum___init__ : FnOk P w K mg base CX0 2 (A 1220) (D 1220) ["self", "terms"] (sp_Sum___init__ K (A 11)) := ok_Sum___init__ T
    refine ⟨_, (pss_one (ps_ret (pe_makeO T.mk_Sum G_Sum___init__ (hr.mono (by decide)) rfl T.g_Sum T.b_Sum___init__ .nil (pas0 pass0) (pa_cons (pe_lc (own := [("name", 2), ("coefficient", 3)])  (tt := tYes) rfl sc_Sum___mul__.nd (iK_tup (K := K) rfl (pe_fld (pv 0) rfl)) (blkOk_by (N := N_Sum___mul__) (sc := defScope (topM 11 8)) (by decide +kernel)) (fun _ _ _ _ _ => (gK_tup (K := K) 2 rfl rfl (pgs_cons (pg_name (i := 2) sc_Sum___mul__.nd rfl (Or.inl rfl)) (pgs_cons (pg_name (i := 3) sc_Sum___mul__.nd rfl (Or.inl rfl)) pgs_nil)))) (fun _ _ _ _ _ => pts_nil) (fun _ _ _ _ _ => (pe_tup (pa_cons (pv 2) (pa_cons (pe_op op_mulW (pv 3) (pv 1)) pa_nil))))) pa_nil)))), ?_⟩
    obtain ⟨dx, t, h1, h2⟩ := hx.ex
    obtain ⟨t, xs, et, st, ft⟩ := h2.tup_inv
    cases et
    have ln : xs.length = (trm f).length := by rw [ft.length, List.length_map]
    have l5 := trm_len f
    walk_at "st"
    refine ⟨_, rfl, x, A 11, dx, _, _, rfl, h1, T.cl_Sum, T.n_Sum_terms, rfl, t, rfl, ⟨_, st⟩, fun D hD => lc_it walk_tup (fun i H' => PvF [] K 1 H D ((((trm f).take i).map fun p => (p.1, p.2 * c)).map prD) H') (pvF_0 hD) (fun i H' _ z => z.kp.sqT st) ?_ ?_⟩
    · rintro i w H1 H2 hi pv ⟨rfl, hw⟩
      obtain ⟨p, hp, fp⟩ := ft.atm hw
      obtain ⟨b, rfl, sb⟩ := prD_inv (fp.kp pv.kp)
      have pm := List.mem_of_getElem? hp
      refine ⟨b, _, rfl, sb, rfl, _, _, rfl, gnK ⟨_, _, rfl, gnK ⟨rfl, rfl, ?_⟩⟩⟩
      refine yesK ?_
      refine iteT ?_
      refine ⟨_, rfl, _, rfl, _, rfl, _, _, rfl, rfl, (show Sm 100 p.2 by rw [trm_f pm]; exact hf _ (trm_inP f p pm)).cmul hc (by decide) (by decide) (by decide), sz (by simp), fun u hu => ?_⟩
      obtain ⟨acc, c1, c2, c3⟩ := pv.step (Kp.new (A := []) (o := .tup [.str p.1, .int (p.2 * c)]) hu) List.not_mem_nil hD (by rw [List.length_map, List.length_map, List.length_take]; omega) (pr_fd (n := 0) (SqT.of upd_same))
      refine ⟨acc, c1, c2, c3.to ?_⟩
      rw [tk_map hp, List.map_append]; rfl
    rintro H1 pv
    obtain ⟨acc, c1, c2⟩ := pv.ex
    rw [ln, List.take_length] at c2
    refine mk_sum (ts := (trm f).map fun p => (p.1, p.2 * c)) pv.kp (.inl (SqL.of c1)) c2 (inP_map (trm_inP f) _) (by rw [List.length_map]; omega) fun z H' k s => q z H' k (s.congr fun n hn => ?_)
    rw [sumN_scale, sumN_trm hn]
def sp_Sum___rmul__ (K : PySem.W.Frag) (C : Addr) : Sp := fun vs H Q _ => ∃ (x : Addr) (f : Str → Int) (c : Int), vs = [.ref x, .int c] ∧ SumAt K C H x f ∧ (∀ n ∈ poolS, Sm 100 (f n)) ∧ Sm 100 c ∧ ∀ z H', Kp [] H H' → SumAt K C H' z (fun n => f n * c) → Q (.ref z) H'
theorem ok_Sum___rmul__ (T : Txt K mg A D) : FnOk P w K mg base CX0 5 (A 1229) (D 1229) ["self", "factor"] (sp_Sum___rmul__ K (A 11)) := by
  refine T.F_Sum___rmul__.ok sc_Sum___rmul__ (fun vs H Q E h => ?_) (fun cdv A' outer s H vs Q E hr h => ?_)
  · obtain ⟨x, f, c, rfl, hx, hf, hc, q⟩ := h
    rfl
  · obtain ⟨x, f, c, rfl, hx, hf, hc, q⟩ := h
    have hu := hu_of hr
    have G_Sum___mul__ : FnOk P w K mg base CX0 4 (A 1228) (D 1228) ["self", "factor"] (sp_Sum___mul__ K (A 11)) := ok_Sum___mul__ T
    refine ⟨_, (pss_one (ps_ret (pe_opO T.B_Sum_Mult_int T.M_Sum___mul__ G_Sum___mul__ (hr.mono (by decide)) T.b_Sum___mul__ (pas0 pass0) (pv 0) (pv 1)))), ?_⟩
    obtain ⟨dx, t, h1, h2⟩ := hx.ex
    walk_at "st"
    exact ⟨_, rfl, _, rfl, rfl, x, dx, _, rfl, h1, x, f, c, rfl, hx, hf, hc, q⟩
/-- a dict of numbers -/
def NumD (H : Hp) (d : Addr) (φ : Str → Int) (ns : List Str) : Prop := ∃ kvs : List (Key × V), H d = some (.dK kvs) ∧ ∀ n ∈ ns, valV kvs (.inr n) = some (.int (φ n))
def sp_Sum_at (K : PySem.W.Frag) (C : Addr) : Sp := fun vs H Q _ => ∃ (x d : Addr) (f φ : Str → Int), vs = [.ref x, .ref d] ∧ SumAt K C H x f ∧ NumD H d φ poolS ∧ (∀ n ∈ poolS, Sm 100 (f n) ∧ Sm 100 (φ n)) ∧ ∀ H', Kp [] H H' → Q (.int (wsum (trm f) φ)) H'
theorem ok_Sum_at (T : Txt K mg A D) : FnOk P w K mg base CX0 1 (A 1230) (D 1230) ["self", "assignment"] (sp_Sum_at K (A 11)) := by
  refine T.F_Sum_at.ok sc_Sum_at (fun vs H Q E h => ?_) (fun cdv A' outer s H vs Q E hr h => ?_)
  · obtain ⟨x, d, f, φ, rfl, hx, hd, hs, q⟩ := h
    rfl
  · obtain ⟨x, d, f, φ, rfl, hx, hd, hs, q⟩ := h
    have hu := hu_of hr
    refine ⟨_, (pss_one (ps_ret (pe_callB (id := "sum") (cr_sum rfl) (by rfl) T.z_sum (by decide +kernel) (pa_cons (pe_lc (own := [("name", 2), ("coefficient", 3)])  (tt := tYes) rfl sc_Sum_at.nd (iK_tup (K := K) rfl (pe_fld (pv 0) rfl)) (blkOk_by (N := N_Sum_at) (sc := defScope (topM 11 10)) (by decide +kernel)) (fun _ _ _ _ _ => (gK_tup (K := K) 2 rfl rfl (pgs_cons (pg_name (i := 2) sc_Sum_at.nd rfl (Or.inl rfl)) (pgs_cons (pg_name (i := 3) sc_Sum_at.nd rfl (Or.inl rfl)) pgs_nil)))) (fun _ _ _ _ _ => pts_nil) (fun _ _ _ _ _ => (pe_op op_mulW (pv 3) (pe_dget hu (pv 1) (pv 2) (fun _ _ => rfl))))) pa_nil)))), ?_⟩
    obtain ⟨dx, t, h1, h2⟩ := hx.ex
    obtain ⟨t, xs, et, st, ft⟩ := h2.tup_inv
    cases et
    have ln : xs.length = (trm f).length := by rw [ft.length, List.length_map]
    have l5 := trm_len f
    obtain ⟨kvs, hk, hv⟩ := hd
    walk_at "st"
    refine ⟨_, rfl, x, A 11, dx, _, _, rfl, h1, T.cl_Sum, T.n_Sum_terms, rfl, t, rfl, ⟨_, st⟩, fun D hD => lc_it walk_tup (fun i H' => H' D = some (.lst ((((trm f).take i).map fun p => p.2 * φ p.1).map V.int)) ∧ Kp [] H H') ⟨upd_same, Kp.new hD⟩ (fun i H' _ z => z.2.sqT st) ?_ ?_⟩
    · rintro i w H1 H2 hi ⟨e1, k1⟩ ⟨rfl, hw⟩
      obtain ⟨p, hp, fp⟩ := ft.atm hw
      obtain ⟨b, rfl, sb⟩ := prD_inv fp
      have pm := List.mem_of_getElem? hp
      have pi := trm_inP f p pm
      obtain ⟨b1, b2⟩ := hs _ pi
      refine ⟨b, _, rfl, k1.sqT sb, rfl, _, _, rfl, gnK ⟨_, _, rfl, gnK ⟨rfl, rfl, ?_⟩⟩⟩
      refine yesK ?_
      refine iteT ?_
      refine ⟨_, rfl, _, rfl, _, rfl, d, _, rfl, (hv _ pi) ▸ DGet.k (k := Sum.inr p.1) (k1.get hk (.inl List.not_mem_nil)), _, _, rfl, rfl, (show Sm 100 p.2 by rw [trm_f pm]; exact b1).cmul b2 (by decide) (by decide) (by decide), _, e1, szl (by have := tk_len (g := fun p : Str × Int => p.2 * φ p.1) (xs := trm f) i; rw [List.length_map]; omega), ?_, k1.put hD⟩
      rw [tk_map hp, List.map_append]; exact upd_same
    rintro H1 ⟨e1, k1⟩
    rw [ln, List.take_length] at e1
    exact ⟨D, _, rfl, SqL.of e1, q _ k1⟩
/-- a table of names -/
def TabD (H : Hp) (d : Addr) (r : Str → Str) : Prop := ∃ kvs : List (Key × V), H d = some (.dK kvs) ∧ ∀ n ∈ poolS, (valV kvs (.inr n) = none ∧ r n = n) ∨ valV kvs (.inr n) = some (.str (r n))
def mvT (r : Str → Str) (ts : List (Str × Int)) : List (Str × Int) := ts.map fun p => (r p.1, p.2)
def sp_Sum_renamed (K : PySem.W.Frag) (C : Addr) : Sp := fun vs H Q _ => ∃ (x d : Addr) (f : Str → Int) (r : Str → Str), vs = [.ref x, .ref d] ∧ SumAt K C H x f ∧ TabD H d r ∧ (∀ n ∈ poolS, r n ∈ poolS) ∧ ∀ z H', Kp [] H H' → SumAt K C H' z (sumN (mvT r (trm f))) → Q (.ref z) H'
theorem ok_Sum_renamed (T : Txt K mg A D) : FnOk P w K mg base CX0 4 (A 1231) (D 1231) ["self", "table"] (sp_Sum_renamed K (A 11)) := by
  refine T.F_Sum_renamed.ok sc_Sum_renamed (fun vs H Q E h => ?_) (fun cdv A' outer s H vs Q E hr h => ?_)
  · obtain ⟨x, d, f, r, rfl, hx, hd, hr', q⟩ := h
    rfl
  · obtain ⟨x, d, f, r, rfl, hx, hd, hr', q⟩ := h
    have hu := hu_of hr
    have G_Sum___init__ : FnOk P w K mg base CX0 2 (A 1220) (D 1220) ["self", "terms"] (sp_Sum___init__ K (A 11)) := ok_Sum___init__ T
    refine ⟨_, (pss_one (ps_ret (pe_makeO T.mk_Sum G_Sum___init__ (hr.mono (by decide)) rfl T.g_Sum T.b_Sum___init__ .nil (pas0 pass0) (pa_cons (pe_lc (own := [("name", 2), ("coefficient", 3)])  (tt := tYes) rfl sc_Sum_renamed.nd (iK_tup (K := K) rfl (pe_fld (pv 0) rfl)) (blkOk_by (N := N_Sum_renamed) (sc := defScope (topM 11 11)) (by decide +kernel)) (fun _ _ _ _ _ => (gK_tup (K := K) 2 rfl rfl (pgs_cons (pg_name (i := 2) sc_Sum_renamed.nd rfl (Or.inl rfl)) (pgs_cons (pg_name (i := 3) sc_Sum_renamed.nd rfl (Or.inl rfl)) pgs_nil)))) (fun _ _ _ _ _ => pts_nil) (fun _ _ _ _ _ => (pe_tup (pa_cons (pe_dget2 hu (pv 1) (pv 2) (pv 2) ⟨rfl, rfl, rfl, rfl⟩) (pa_cons (pv 3) pa_nil))))) pa_nil)))), ?_⟩
    obtain ⟨dx, t, h1, h2⟩ := hx.ex
    obtain ⟨t, xs, et, st, ft⟩ := h2.tup_inv
    cases et
    have ln : xs.length = (trm f).length := by rw [ft.length, List.length_map]
    have l5 := trm_len f
    obtain ⟨kvs, hk, hv⟩ := hd
    have get : ∀ {n : Str}, n ∈ poolS → (valV kvs (.inr n)).getD (.str n) = .str (r n) := fun hn => by
      rcases hv _ hn with ⟨e, e2⟩ | e
      · rw [e, e2]; rfl
      · rw [e]; rfl
    walk_at "st"
    refine ⟨_, rfl, x, A 11, dx, _, _, rfl, h1, T.cl_Sum, T.n_Sum_terms, rfl, t, rfl, ⟨_, st⟩, fun D hD => lc_it walk_tup (fun i H' => PvF [] K 1 H D ((((trm f).take i).map fun p => (r p.1, p.2)).map prD) H') (pvF_0 hD) (fun i H' _ z => z.kp.sqT st) ?_ ?_⟩
    · rintro i w H1 H2 hi pv ⟨rfl, hw⟩
      obtain ⟨p, hp, fp⟩ := ft.atm hw
      obtain ⟨b, rfl, sb⟩ := prD_inv (fp.kp pv.kp)
      have pm := List.mem_of_getElem? hp
      have k2 := pv.kp.get hk (.inl List.not_mem_nil)
      refine ⟨b, _, rfl, sb, rfl, _, _, rfl, gnK ⟨_, _, rfl, gnK ⟨rfl, rfl, ?_⟩⟩⟩
      refine yesK ?_
      refine iteT ?_
      refine ⟨_, rfl, d, rfl, .inl ⟨_, .inl k2⟩, _, rfl, _, rfl, _, DGet.k (k := Sum.inr p.1) k2, ?_⟩
      rw [get (trm_inP f p pm)]
      refine ⟨_, rfl, sz (by simp), fun u hu => ?_⟩
      obtain ⟨acc, c1, c2, c3⟩ := pv.step (Kp.new (A := []) (o := .tup [.str (r p.1), .int p.2]) hu) List.not_mem_nil hD (by rw [List.length_map, List.length_map, List.length_take]; omega) (pr_fd (n := 0) (SqT.of upd_same))
      refine ⟨acc, c1, c2, c3.to ?_⟩
      rw [tk_map hp, List.map_append]; rfl
    rintro H1 pv
    obtain ⟨acc, c1, c2⟩ := pv.ex
    rw [ln, List.take_length] at c2
    exact mk_sum (ts := mvT r (trm f)) pv.kp (.inl (SqL.of c1)) c2 (fun p hp => by obtain ⟨m, hm, rfl⟩ := List.mem_map.mp hp; exact hr' _ (trm_inP f m hm)) (by unfold mvT; rw [List.length_map]; omega) q
def sp__law_size (K : PySem.W.Frag) : Sp := fun vs H Q _ => ∃ (s : Addr), vs = [.ref s] ∧ Src H s ∧ ∀ (i : Int) H', 0 ≤ i → Sm 41 i → Kp [s] H H' → Src H' s → Q (.int i) H'
theorem ok__law_size (T : Txt K mg A D) : FnOk P w K mg base CX0 2 (A 15) (D 15) ["_law_source_here"] (sp__law_size K) := by
  refine T.F__law_size.ok sc__law_size (fun vs H Q E h => ?_) (fun cdv A' outer s H vs Q E hr h => ?_)
  · obtain ⟨s, rfl, hs, q⟩ := h
    rfl
  · obtain ⟨s, rfl, hs, q⟩ := h
    have hu := hu_of hr
    have G__law_draw : FnOk P w K mg base CX0 1 (A 14) (D 14) ["_law_source_here", "_law_limit"] (sp__law_draw K) := ok__law_draw T
    refine ⟨_, (pss_cons (ps_set (i := 1) sc__law_size.nd rfl (Or.inl rfl) (pe_call G__law_draw (hr.mono (by decide)) rfl T.g__law_draw T.F__law_draw.kp T.b__law_draw .nil pass0 (pa_cons (pv 0) (pa_cons pe_int pa_nil))))
      (pss_cons (ps_if (pt_cmpR op_eq (pv 1) pe_int (nomark _))
        (pss_one (ps_ret (pe_call G__law_draw (hr.mono (by decide)) rfl T.g__law_draw T.F__law_draw.kp T.b__law_draw .nil pass0 (pa_cons (pv 0) (pa_cons pe_int pa_nil)))))
        pss_nil)
      (pss_cons (ps_if (pt_cmpR op_eq (pv 1) pe_int (nomark _))
        (pss_one (ps_ret (pe_call G__law_draw (hr.mono (by decide)) rfl T.g__law_draw T.F__law_draw.kp T.b__law_draw .nil pass0 (pa_cons (pv 0) (pa_cons pe_int pa_nil)))))
        pss_nil)
      (pss_cons (ps_if (pt_cmpR op_eq (pv 1) pe_int (nomark _))
        (pss_one (ps_ret (pe_call G__law_draw (hr.mono (by decide)) rfl T.g__law_draw T.F__law_draw.kp T.b__law_draw .nil pass0 (pa_cons (pv 0) (pa_cons pe_int pa_nil)))))
        pss_nil)
      (pss_one (ps_ret (pe_op op_add (pe_op op_mulW (pe_call G__law_draw (hr.mono (by decide)) rfl T.g__law_draw T.F__law_draw.kp T.b__law_draw .nil pass0 (pa_cons (pv 0) (pa_cons pe_int pa_nil))) pe_int) (pe_call G__law_draw (hr.mono (by decide)) rfl T.g__law_draw T.F__law_draw.kp T.b__law_draw .nil pass0 (pa_cons (pv 0) (pa_cons pe_int pa_nil)))))))))), ?_⟩
    walk_at "st"
    refine ⟨_, rfl, s, 4, rfl, hs, by decide, by decide, fun ch H1 c0 c1 k1 s1 => ?_⟩
    have lim : ∀ {x : Int}, 0 ≤ x → x < 2199023255552 → Sm 41 x := fun h0 h1 => by unfold Sm; omega
    walk_at "st"
    refine ⟨_, rfl, rfl, _, rfl, ?_⟩
    refine ite2 (fun c => ?_) (fun c => ?_)
    · walk_at "st"
      exact ⟨_, rfl, s, 3, rfl, s1, by decide, by decide, fun x H2 x0 x1 k2 s2 => q x H2 x0 (lim x0 (by omega)) (k1.trans k2) s2⟩
    walk_at "st"
    refine ⟨_, rfl, rfl, _, rfl, ?_⟩
    refine ite2 (fun c => ?_) (fun c => ?_)
    · walk_at "st"
      exact ⟨_, rfl, s, 10, rfl, s1, by decide, by decide, fun x H2 x0 x1 k2 s2 => q x H2 x0 (lim x0 (by omega)) (k1.trans k2) s2⟩
    walk_at "st"
    refine ⟨_, rfl, rfl, _, rfl, ?_⟩
    refine ite2 (fun c => ?_) (fun c => ?_)
    · walk_at "st"
      exact ⟨_, rfl, s, 1000000, rfl, s1, by decide, by decide, fun x H2 x0 x1 k2 s2 => q x H2 x0 (lim x0 (by omega)) (k1.trans k2) s2⟩
    walk_at "st"
    refine ⟨_, rfl, s, 1000000, rfl, s1, by decide, by decide, fun x H2 x0 x1 k2 s2 => ⟨_, _, rfl, rfl, (lim x0 (by omega)).cmul (m := 41) (by unfold Sm; decide) (by decide) (by decide) (by decide), _, rfl, s, 1000000, rfl, s2, by decide, by decide, fun y H3 y0 y1 k3 s3 => ⟨_, _, rfl, rfl, ?_⟩⟩⟩
    exact q _ H3 (by omega) (lim (by omega) (by omega)) (k1.trans (k2.trans k3)) s3
def sp__law_number (K : PySem.W.Frag) : Sp := fun vs H Q _ => ∃ (s : Addr), vs = [.ref s] ∧ Src H s ∧ ∀ (i : Int) H', Sm 41 i → Kp [s] H H' → Src H' s → Q (.int i) H'
theorem ok__law_number (T : Txt K mg A D) : FnOk P w K mg base CX0 3 (A 16) (D 16) ["_law_source_here"] (sp__law_number K) := by
  refine T.F__law_number.ok sc__law_number (fun vs H Q E h => ?_) (fun cdv A' outer s H vs Q E hr h => ?_)
  · obtain ⟨s, rfl, hs, q⟩ := h
    rfl
  · obtain ⟨s, rfl, hs, q⟩ := h
    have hu := hu_of hr
    have G__law_size : FnOk P w K mg base CX0 2 (A 15) (D 15) ["_law_source_here"] (sp__law_size K) := ok__law_size T
    have G__law_draw : FnOk P w K mg base CX0 1 (A 14) (D 14) ["_law_source_here", "_law_limit"] (sp__law_draw K) := ok__law_draw T
    refine ⟨_, (pss_cons (ps_set (i := 1) sc__law_number.nd rfl (Or.inl rfl) (pe_call G__law_size (hr.mono (by decide)) rfl T.g__law_size T.F__law_size.kp T.b__law_size .nil pass0 (pa_cons (pv 0) pa_nil)))
      (pss_cons (ps_if (pt_cmpR op_eq (pe_call G__law_draw (hr.mono (by decide)) rfl T.g__law_draw T.F__law_draw.kp T.b__law_draw .nil pass0 (pa_cons (pv 0) (pa_cons pe_int pa_nil))) pe_int (nomark _))
        (pss_one (ps_ret (pe_un un_neg (pv 1))))
        pss_nil)
      (pss_one (ps_ret (pv 1))))), ?_⟩
    walk_at "st"
    refine ⟨_, rfl, s, rfl, hs, fun n H1 n0 n1 k1 s1 => ?_⟩
    refine seq_ifK0 ⟨_, rfl, s, 2, rfl, s1, by decide, by decide, fun c H2 c0 c1 k2 s2 => ⟨rfl, _, rfl, ?_⟩⟩
    refine ite2 (fun c => ?_) (fun c => ?_)
    · walk_at "st"
      exact ⟨_, rfl, _, rfl, q _ H2 n1.neg (k1.trans k2) s2⟩
    · walk_at "st"
      exact ⟨_, rfl, q _ H2 n1 (k1.trans k2) s2⟩
def sp__law_shared (K : PySem.W.Frag) : Sp := fun vs H Q _ => ∃ t b : Int, vs = [.int t, .int b] ∧ t.natAbs * b.natAbs < 2 ^ 590 ∧ Q (.int ((Nat.gcd t.natAbs b.natAbs : Nat) : Int)) H
theorem ok__law_shared (T : Txt K mg A D) : FnOk P w K mg base CX0 1 (A 17) (D 17) ["_law_first", "_law_second"] (sp__law_shared K) := by
  refine T.F__law_shared.ok sc__law_shared (fun vs H Q E h => ?_) (fun cdv A' outer s H vs Q E hr h => ?_)
  · obtain ⟨t, b, rfl, hb, q⟩ := h
    rfl
  · obtain ⟨t, b, rfl, hb, q⟩ := h
    have hu := hu_of hr
    refine ⟨_, (pss_cons (ps_set (i := 2) sc__law_shared.nd rfl (Or.inl rfl) (pe_callB (id := "abs") call_abs (by rfl) T.z_abs (by decide +kernel) (pa_cons (pv 0) pa_nil)))
      (pss_cons (ps_set (i := 3) sc__law_shared.nd rfl (Or.inl rfl) (pe_callB (id := "abs") call_abs (by rfl) T.z_abs (by decide +kernel) (pa_cons (pv 1) pa_nil)))
      (pss_cons (ps_for PassesOwn.never rfl (pi_range1 rfl T.z_range (pa_cons pe_int pa_nil)) (pg_name (i := 4) sc__law_shared.nd rfl (Or.inl rfl))
        (pss_cons (ps_if (pt_cmpR op_eq (pv 3) pe_int (nomark _))
          (pss_one (ps_ret (pv 2)))
          pss_nil)
        (pss_cons (ps_set (i := 5) sc__law_shared.nd rfl (Or.inl rfl) (pe_op op_mod (pe_callTy (T := "int") call_int1 (by rfl) T.z_int (by decide +kernel) (pa_cons (pv 2) pa_nil)) (pv 3)))
        (pss_cons (ps_set (i := 2) sc__law_shared.nd rfl (Or.inl rfl) (pv 3))
        (pss_one (ps_set (i := 3) sc__law_shared.nd rfl (Or.inl rfl) (pv 5)))))))
      (pss_one (ps_ret (pv 2)))))), ?_⟩
    have eabs : ∀ i : Int, (if i < 0 then -i else i) = ((i.natAbs : Nat) : Int) := fun i => by split <;> omega
    walk_at "st"
    refine ⟨_, rfl, t, rfl, ?_⟩
    rw [eabs]
    walk_at "st"
    refine ⟨_, rfl, b, rfl, ?_⟩
    rw [eabs]
    try dsimp only
    refine seq_forK ?_
    refine ⟨_, rfl, by decide, by decide, for_seq walk_range (fun i σ H' => (∃ (x y : Nat) (v4 v5 : Option V), σ = [some (.int t), some (.int b), some (.int (x : Int)), some (.int (y : Int)), v4, v5] ∧ Nat.gcd x y = Nat.gcd t.natAbs b.natAbs ∧ (i = 0 → x * y < 2 ^ 590) ∧ (0 < i → y ≤ x ∧ x * y * 2 ^ (i - 1) < 2 ^ 590)) ∧ H' = H) ⟨⟨t.natAbs, b.natAbs, _, _, rfl, rfl, fun _ => hb, fun h => absurd h (by decide)⟩, rfl⟩ (fun _ _ _ _ _ => trivial) ?_ ?_⟩
    · rintro i w σ H1 H2 hi ⟨⟨x, y, v4, v5, rfl, hg, h0, h1⟩, rfl⟩ ⟨rfl, rfl⟩
      refine gnK ?_
      refine seq_ifK0 ⟨_, rfl, rfl, _, rfl, ?_⟩
      refine ite2 (fun c => ?_) (fun c => ?_)
      · have y0 : y = 0 := by
          have : (y : Int) = 0 := by simpa using c
          omega
        walk_at "st"
        refine ⟨_, rfl, ?_⟩
        rw [y0, Nat.gcd_zero_right] at hg
        rw [hg]; exact q
      · have y0 : y ≠ 0 := by
          have : ¬ (y : Int) = 0 := by simpa using c
          omega
        walk_at "st"
        refine ⟨_, rfl, .inl ⟨_, rfl, _, rfl, _, _, rfl, rfl, (by show (0 : Int) < (y : Int); omega), ?_⟩⟩
        walk_at "st"
        refine ⟨_, rfl, ?_⟩
        refine setK ⟨_, rfl, ?_⟩
        have em : (x : Int) % (y : Int) = ((x % y : Nat) : Int) := (Int.natCast_emod x y).symm
        refine ⟨⟨y, x % y, _, _, by rw [← em]; rfl, by rw [← euc_step y0]; exact hg, fun h => absurd h (by omega), fun _ => ⟨Nat.le_of_lt (Nat.mod_lt _ (by omega)), ?_⟩⟩, rfl⟩
        rw [Nat.add_sub_cancel]
        rcases Nat.eq_zero_or_pos i with z | z
        · subst z
          have h2 := h0 rfl
          rw [Nat.pow_zero, Nat.mul_one]
          refine Nat.lt_of_le_of_lt ?_ h2
          rw [Nat.mul_comm x y]
          exact Nat.mul_le_mul_left y (Nat.mod_le x y)
        · obtain ⟨h2, h3⟩ := h1 z
          have h4 := euc_half y0 h2
          refine Nat.lt_of_le_of_lt ?_ h3
          have e : 2 ^ i = 2 * 2 ^ (i - 1) := by
            conv => lhs; rw [show i = (i - 1) + 1 by omega, Nat.pow_succ]
            exact Nat.mul_comm _ _
          rw [e, ← Nat.mul_assoc]
          refine Nat.mul_le_mul_right _ ?_
          rw [Nat.mul_comm _ 2]; exact h4
    · rintro σ H1 ⟨⟨x, y, v4, v5, rfl, hg, h0, h1⟩, rfl⟩
      have e6 : (600 : Int).toNat = 600 := rfl
      rw [e6] at h0 h1
      obtain ⟨h2, h3⟩ := h1 (by decide)
      have y0 : y = 0 := by
        rcases Nat.eq_zero_or_pos y with z | z
        · exact z
        · have h4 : 1 ≤ x * y := Nat.mul_pos (by omega) z
          have h5 : 1 * 2 ^ 599 ≤ x * y * 2 ^ 599 := Nat.mul_le_mul_right _ h4
          have h6 : (2 : Nat) ^ 590 ≤ 2 ^ 599 := Nat.pow_le_pow_right (by decide) (by decide)
          have h7 : x * y * 2 ^ 599 < 2 ^ 590 := h3
          omega
      walk_at "st"
      refine ⟨_, rfl, ?_⟩
      rw [y0, Nat.gcd_zero_right] at hg
      rw [hg]; exact q
def sp__law_lowest (K : PySem.W.Frag) : Sp := fun vs H Q _ => ∃ t b : Int, vs = [.int t, .int b] ∧ b ≠ 0 ∧ Sm 8000 b ∧ t.natAbs * b.natAbs < 2 ^ 590 ∧ ∀ p H', Kp [] H H' → SqT K H' p [.int (lowP t b).1, .int (lowP t b).2] → Q (.ref p) H'
theorem ok__law_lowest (T : Txt K mg A D) : FnOk P w K mg base CX0 2 (A 18) (D 18) ["_law_top", "_law_bottom"] (sp__law_lowest K) := by
  refine T.F__law_lowest.ok sc__law_lowest (fun vs H Q E h => ?_) (fun cdv A' outer s H vs Q E hr h => ?_)
  · obtain ⟨t, b, rfl, h0, hb, ht, q⟩ := h
    rfl
  · obtain ⟨t, b, rfl, h0, hb, ht, q⟩ := h
    have hu := hu_of hr
    have G__law_shared : FnOk P w K mg base CX0 1 (A 17) (D 17) ["_law_first", "_law_second"] (sp__law_shared K) := ok__law_shared T
    refine ⟨_, (pss_cons (ps_set (i := 2) sc__law_lowest.nd rfl (Or.inl rfl) (pe_call G__law_shared (hr.mono (by decide)) rfl T.g__law_shared T.F__law_shared.kp T.b__law_shared .nil pass0 (pa_cons (pv 0) (pa_cons (pv 1) pa_nil))))
      (pss_cons (ps_if (pt_cmpR op_lt (pv 1) pe_int (nomark _))
        (pss_one (ps_set (i := 2) sc__law_lowest.nd rfl (Or.inl rfl) (pe_un un_neg (pv 2))))
        pss_nil)
      (pss_one (ps_ret (pe_tup (pa_cons (pe_op op_fdivX (pv 0) (pv 2)) (pa_cons (pe_op op_fdivX (pv 1) (pv 2)) pa_nil))))))), ?_⟩
    walk_at "st"
    refine ⟨_, rfl, _, rfl, t, b, rfl, ht, ?_⟩
    refine seq_ifK0 ⟨_, rfl, _, _, rfl, rfl, _, rfl, ?_⟩
    have fin : ∀ {p : Addr}, H p = none → Q (.ref p) (upd H p (.tup [.int (lowP t b).1, .int (lowP t b).2])) := fun hp => q _ _ (Kp.new hp) (SqT.of upd_same)
    refine ite2 (fun c => ?_) (fun c => ?_)
    · have c' : b < 0 := by simpa using c
      have es : -((Nat.gcd t.natAbs b.natAbs : Nat) : Int) = sg t b := by unfold sg; rw [if_pos c']
      refine setK ⟨_, rfl, _, rfl, ?_⟩
      dsimp only
      rw [es]
      walk_at "st"
      exact ⟨_, rfl, _, rfl, _, _, rfl, rfl, ⟨sg_ne h0, sg_log h0 (by decide) hb (by decide)⟩, _, rfl, _, rfl, _, _, rfl, rfl, ⟨sg_ne h0, sg_log h0 (by decide) hb (by decide)⟩, sz (by simp), fun p hp => fin hp⟩
    · have c' : ¬ b < 0 := by simpa using c
      have es : ((Nat.gcd t.natAbs b.natAbs : Nat) : Int) = sg t b := by unfold sg; rw [if_neg c']
      rw [es]
      walk_at "st"
      exact ⟨_, rfl, _, rfl, _, _, rfl, rfl, ⟨sg_ne h0, sg_log h0 (by decide) hb (by decide)⟩, _, rfl, _, rfl, _, _, rfl, rfl, ⟨sg_ne h0, sg_log h0 (by decide) hb (by decide)⟩, sz (by simp), fun p hp => fin hp⟩
/-- a ratio that the law draws -/
def DQ (q : Int × Int) : Prop := Sm 42 q.1 ∧ Sm 42 q.2 ∧ 0 < q.2
theorem DQ.gq {q : Int × Int} (h : DQ q) : GQ q := ⟨h.1.le (by decide), h.2.1.le (by decide), h.2.2⟩
def sp__law_ratio (K : PySem.W.Frag) : Sp := fun vs H Q _ => ∃ (s : Addr), vs = [.ref s] ∧ Src H s ∧ ∀ r (x : Int × Int) H', Kp [s] H H' → Src H' s → DQ x → SqT K H' r [.int x.1, .int x.2] → Q (.ref r) H'
theorem ok__law_ratio (T : Txt K mg A D) : FnOk P w K mg base CX0 4 (A 19) (D 19) ["_law_source_here"] (sp__law_ratio K) := by
  refine T.F__law_ratio.ok sc__law_ratio (fun vs H Q E h => ?_) (fun cdv A' outer s H vs Q E hr h => ?_)
  · obtain ⟨s, rfl, hs, q⟩ := h
    rfl
  · obtain ⟨s, rfl, hs, q⟩ := h
    have hu := hu_of hr
    have G__law_number : FnOk P w K mg base CX0 3 (A 16) (D 16) ["_law_source_here"] (sp__law_number K) := ok__law_number T
    have G__law_lowest : FnOk P w K mg base CX0 2 (A 18) (D 18) ["_law_top", "_law_bottom"] (sp__law_lowest K) := ok__law_lowest T
    have G__law_size : FnOk P w K mg base CX0 2 (A 15) (D 15) ["_law_source_here"] (sp__law_size K) := ok__law_size T
    refine ⟨_, (pss_cons (ps_set (i := 1) sc__law_ratio.nd rfl (Or.inl rfl) (pe_call G__law_number (hr.mono (by decide)) rfl T.g__law_number T.F__law_number.kp T.b__law_number .nil pass0 (pa_cons (pv 0) pa_nil)))
      (pss_one (ps_ret (pe_call G__law_lowest (hr.mono (by decide)) rfl T.g__law_lowest T.F__law_lowest.kp T.b__law_lowest .nil pass0 (pa_cons (pv 1) (pa_cons (pe_op op_add pe_int (pe_call G__law_size (hr.mono (by decide)) rfl T.g__law_size T.F__law_size.kp T.b__law_size .nil pass0 (pa_cons (pv 0) pa_nil))) pa_nil)))))), ?_⟩
    walk_at "st"
    refine ⟨_, rfl, s, rfl, hs, fun n H1 n1 k1 s1 => ?_⟩
    walk_at "st"
    refine ⟨_, rfl, _, rfl, s, rfl, s1, fun m H2 m0 m1 k2 s2 => ⟨_, _, rfl, rfl, n, 1 + m, rfl, by omega, ?_, ?_, fun p H3 k3 h3 => ?_⟩⟩
    · exact (show Sm 42 (1 + m) by unfold Sm at *; omega).le (by decide)
    · exact n1.prod (show Sm 42 (1 + m) by unfold Sm at *; omega) (by decide)
    · have hb : (1 + m) ≠ 0 := by omega
      have := lowP_sm hb (n1.le (show 41 ≤ 42 by decide)) (show Sm 42 (1 + m) by unfold Sm at *; omega)
      exact q p _ H3 ((k1.trans k2).trans k3.nil) (s2.kp k3 List.not_mem_nil) ⟨this.1, this.2, lowP_pos (by omega)⟩ h3
def sp__law_is (K : PySem.W.Frag) : Sp := fun vs H Q _ => ∃ (a b : Addr) (x : Int × Int), vs = [.ref a, .ref b] ∧ SqT K H a [.int x.1, .int x.2] ∧ SqT K H b [.int x.1, .int x.2] ∧ ∀ H', Kp [] H H' → Q (.bl true) H'
theorem ok__law_is (T : Txt K mg A D) : FnOk P w K mg base CX0 1 (A 20) (D 20) ["_law_actual", "_law_expected"] (sp__law_is K) := by
  refine T.F__law_is.ok sc__law_is (fun vs H Q E h => ?_) (fun cdv A' outer s H vs Q E hr h => ?_)
  · obtain ⟨a, b, x, rfl, ha, hb, q⟩ := h
    rfl
  · obtain ⟨a, b, x, rfl, ha, hb, q⟩ := h
    have hu := hu_of hr
    refine ⟨_, (pss_cons (ps_if (PW.pt (pw_or (pt_not (pt_val (pe_callB (id := "isinstance") (cK_isi (K := K) rfl) (by rfl) T.z_isinstance (by decide +kernel) (pa_cons (pv 0) (pa_cons (pe_bltn (v := .ty "tuple") (u := .type "tuple") (by rfl) T.z_tuple (by decide +kernel) rfl) pa_nil))))) (pw_or1 (pt_cmpR op_ne (pe_callB (id := "len") (cK_len (K := K) rfl) (by rfl) T.z_len (by decide +kernel) (pa_cons (pv 0) pa_nil)) pe_int (nomark _)))))
        (pss_one (ps_ret pe_bl))
        pss_nil)
      (pss_cons (ps_for PassesOwn.never rfl (pi_range1 rfl T.z_range (pa_cons pe_int pa_nil)) (pg_name (i := 2) sc__law_is.nd rfl (Or.inl rfl))
        (pss_one (ps_if (PW.pt (pw_or (pt_not (pt_val (pe_callB (id := "isinstance") (cK_isi (K := K) rfl) (by rfl) T.z_isinstance (by decide +kernel) (pa_cons (pe_ix (xK_tup (K := K) rfl) (pv 0) (pv 2) (fun _ _ => rfl)) (pa_cons (pe_bltn (v := .ty "int") (u := .type "int") (by rfl) T.z_int (by decide +kernel) rfl) pa_nil))))) (pw_or (pt_val (pe_callB (id := "isinstance") (cK_isi (K := K) rfl) (by rfl) T.z_isinstance (by decide +kernel) (pa_cons (pe_ix (xK_tup (K := K) rfl) (pv 0) (pv 2) (fun _ _ => rfl)) (pa_cons (pe_bltn (v := .ty "bool") (u := .type "bool") (by rfl) T.z_bool (by decide +kernel) rfl) pa_nil)))) (pw_or1 (pt_cmpR op_ne (pe_ix (xK_tup (K := K) rfl) (pv 0) (pv 2) (fun _ _ => rfl)) (pe_ix (xK_tup (K := K) rfl) (pv 1) (pv 2) (fun _ _ => rfl)) (nomark _))))))
          (pss_one (ps_ret pe_bl))
          pss_nil)))
      (pss_one (ps_ret pe_bl)))), ?_⟩
    refine seq_ifK0 ?_
    refine ⟨_, rfl, _, _, _, _, true, rfl, .ty _, tyx_tup ha, kit_ty (by decide +kernel), _, rfl, ?_⟩
    refine iteF ?_
    refine ⟨_, rfl, _, 2, rfl, .inr ⟨_, ha, rfl⟩, rfl, _, rfl, ?_⟩
    refine iteF ?_
    refine seq_forK ?_
    refine ⟨_, rfl, by decide, by decide, for_seq walk_range (fun i σ H' => (∃ v2 : Option V, σ = [some (.ref a), some (.ref b), v2]) ∧ H' = H) ⟨⟨_, rfl⟩, rfl⟩ (fun _ _ _ _ _ => trivial) ?_ ?_⟩
    · rintro i w σ H1 H2 hi ⟨⟨v2, rfl⟩, rfl⟩ ⟨rfl, rfl⟩
      obtain ⟨z, hz⟩ : ∃ z : Int, ([.int x.1, .int x.2] : List V)[i]? = some (.int z) := by
        have hj' : i = 0 ∨ i = 1 := by have : i < 2 := hi; omega
        rcases hj' with e | e <;> subst e <;> exact ⟨_, rfl⟩
      refine gnK ?_
      refine if_anK ?_
      refine ⟨_, rfl, _, rfl, a, _, _, .int z, rfl, rfl, ha, atI_nat' hz (by simp), _, _, _, _, true, rfl, .ty _, .base (.int z), kit_ty (by decide +kernel), _, rfl, ?_⟩
      refine iteF ?_
      refine ⟨_, rfl, _, rfl, a, _, _, .int z, rfl, rfl, ha, atI_nat' hz (by simp), _, _, _, _, false, rfl, .ty _, .base (.int z), kit_ty (by decide +kernel), _, rfl, ?_⟩
      refine iteF ?_
      refine ⟨_, rfl, _, rfl, a, _, _, .int z, rfl, rfl, ha, atI_nat' hz (by simp), _, rfl, _, rfl, b, _, _, .int z, rfl, rfl, hb, atI_nat' hz (by simp), rfl, _, rfl, ?_⟩
      dsimp only
      rw [if_neg (by simp)]
      exact ⟨⟨_, rfl⟩, rfl⟩
    · rintro σ H1 ⟨⟨v2, rfl⟩, rfl⟩
      walk_at "st"
      exact q _ Kp.refl
def sp__law_added (K : PySem.W.Frag) : Sp := fun vs H Q _ => ∃ (a : Addr) (xs : List V) (qs : List (Int × Int)), vs = [.ref a] ∧ SqL K H a xs ∧ FdAll K H 1 xs (qs.map prQ) ∧ qs.length ≤ 5 ∧ (∀ q ∈ qs, Sm 90 q.1 ∧ Sm 42 q.2 ∧ 0 < q.2) ∧ ∀ r H', Kp [] H H' → SqT K H' r [.int (lowP (tot qs).1 (tot qs).2).1, .int (lowP (tot qs).1 (tot qs).2).2] → Q (.ref r) H'
theorem ok__law_added (T : Txt K mg A D) : FnOk P w K mg base CX0 3 (A 21) (D 21) ["_law_parts"] (sp__law_added K) := by
  refine T.F__law_added.ok sc__law_added (fun vs H Q E h => ?_) (fun cdv A' outer s H vs Q E hr h => ?_)
  · obtain ⟨a, xs, qs, rfl, ha, hd, hl, hg, q⟩ := h
    rfl
  · obtain ⟨a, xs, qs, rfl, ha, hd, hl, hg, q⟩ := h
    have hu := hu_of hr
    have G__law_lowest : FnOk P w K mg base CX0 2 (A 18) (D 18) ["_law_top", "_law_bottom"] (sp__law_lowest K) := ok__law_lowest T
    refine ⟨_, (pss_cons (ps_set (i := 1) sc__law_added.nd rfl (Or.inl rfl) pe_int)
      (pss_cons (ps_set (i := 2) sc__law_added.nd rfl (Or.inl rfl) pe_int)
      (pss_cons (ps_for PassesOwn.never rfl (iK_list (K := K) rfl (pv 0)) (pg_name (i := 3) sc__law_added.nd rfl (Or.inl rfl))
        (pss_cons (ps_set (i := 1) sc__law_added.nd rfl (Or.inl rfl) (pe_op op_add (pe_op op_mulW (pv 1) (pe_ix (xK_tup (K := K) rfl) (pv 3) pe_int (fun _ _ => rfl))) (pe_op op_mulW (pe_ix (xK_tup (K := K) rfl) (pv 3) pe_int (fun _ _ => rfl)) (pv 2))))
        (pss_one (ps_set (i := 2) sc__law_added.nd rfl (Or.inl rfl) (pe_op op_mulW (pv 2) (pe_ix (xK_tup (K := K) rfl) (pv 3) pe_int (fun _ _ => rfl)))))))
      (pss_one (ps_ret (pe_call G__law_lowest (hr.mono (by decide)) rfl T.g__law_lowest T.F__law_lowest.kp T.b__law_lowest .nil pass0 (pa_cons (pv 1) (pa_cons (pv 2) pa_nil)))))))), ?_⟩
    have ln : xs.length = qs.length := by rw [hd.length, List.length_map]
    refine seq_set vl_c ?_
    refine seq_set vl_c ?_
    refine seq_forK ?_
    refine ⟨_, rfl, a, rfl, ⟨_, ha⟩, for_seq walk_list (fun i σ H' => (∃ v3 : Option V, σ = [some (.ref a), some (.int (tot (qs.take i)).1), some (.int (tot (qs.take i)).2), v3]) ∧ H' = H) ⟨⟨_, rfl⟩, rfl⟩ (fun i σ H' _ z => by rw [z.2]; exact ha) ?_ ?_⟩
    · rintro i v σ H1 H2 hi ⟨⟨v3, rfl⟩, rfl⟩ ⟨rfl, hv⟩
      obtain ⟨q', hq', fq⟩ := hd.atm hv
      obtain ⟨b, rfl, sa⟩ := prQ_inv fq
      obtain ⟨g1, g2, g3⟩ := hg q' (List.mem_of_getElem? hq')
      obtain ⟨t1, t2, t3⟩ := tot_fine hg i
      have il : i < 6 := by have : i < qs.length := (List.getElem?_eq_some_iff.mp hq').1; omega
      refine gnK ?_
      walk_at "st"
      refine ⟨_, rfl, _, rfl, b, _, 1, _, rfl, rfl, sa, rfl, _, _, rfl, rfl, t1.cmul g2 (by omega) (by decide) (by omega), _, rfl, b, _, 0, _, rfl, rfl, sa, rfl, _, rfl, _, _, rfl, rfl, g1.cmul t2 (by decide) (by omega) (by omega), _, _, rfl, rfl, ?_⟩
      walk_at "st"
      refine ⟨_, rfl, _, rfl, b, _, 1, _, rfl, rfl, sa, rfl, _, _, rfl, rfl, t2.cmul g2 (by omega) (by decide) (by omega), ?_⟩
      refine ⟨⟨some (.ref b), ?_⟩, rfl⟩
      rw [tot_take hq']
      rfl
    · rintro σ H1 ⟨⟨v3, rfl⟩, rfl⟩
      rw [ln, List.take_length]
      obtain ⟨t1, t2, t3⟩ := tot_fine hg qs.length
      rw [List.take_length] at t1 t2 t3
      walk_at "st"
      exact ⟨_, rfl, _, rfl, _, _, rfl, by omega, t2.le (by omega), (t1.le (show _ ≤ 330 by omega)).prod (t2.le (show _ ≤ 260 by omega)) (by decide), q⟩
def sp__law_total (K : PySem.W.Frag) : Sp := fun vs H Q _ => ∃ (a : Addr) (xs : List V) (qs : List (Int × Int)), vs = [.ref a] ∧ SqL K H a xs ∧ FdAll K H 1 xs (qs.map prQ) ∧ qs.length ≤ 5 ∧ (∀ q ∈ qs, GQ q) ∧ ∀ r H', Kp [] H H' → SqT K H' r [.int (lowP (tot qs).1 (tot qs).2).1, .int (lowP (tot qs).1 (tot qs).2).2] → Q (.ref r) H'
theorem ok__law_total (T : Txt K mg A D) : FnOk P w K mg base CX0 3 (A 22) (D 22) ["_law_parts"] (sp__law_total K) := by
  refine T.F__law_total.ok sc__law_total (fun vs H Q E h => ?_) (fun cdv A' outer s H vs Q E hr h => ?_)
  · obtain ⟨a, xs, qs, rfl, ha, hd, hl, hg, q⟩ := h
    rfl
  · obtain ⟨a, xs, qs, rfl, ha, hd, hl, hg, q⟩ := h
    have hu := hu_of hr
    have G_total : FnR P w K mg base CX0 2 (A 3) (star 0 (sp_total K)) := ok_total T
    refine ⟨_, (pss_cons (ps_if (pt_cmpR op_eq (pe_callB (id := "len") (cK_len (K := K) rfl) (by rfl) T.z_len (by decide +kernel) (pa_cons (pv 0) pa_nil)) pe_int (nomark _))
        (pss_one (ps_ret (pe_callF0 G_total (hr.mono (by decide)) rfl T.g_total T.F_total.kp pass0)))
        pss_nil)
      (pss_cons (ps_if (pt_cmpR op_eq (pe_callB (id := "len") (cK_len (K := K) rfl) (by rfl) T.z_len (by decide +kernel) (pa_cons (pv 0) pa_nil)) pe_int (nomark _))
        (pss_one (ps_ret (pe_callF G_total (hr.mono (by decide)) T.F_total.kp rfl T.g_total pass0 (pa_cons (pe_ix (xK_list (K := K) rfl) (pv 0) pe_int (fun _ _ => rfl)) pa_nil))))
        pss_nil)
      (pss_cons (ps_if (pt_cmpR op_eq (pe_callB (id := "len") (cK_len (K := K) rfl) (by rfl) T.z_len (by decide +kernel) (pa_cons (pv 0) pa_nil)) pe_int (nomark _))
        (pss_one (ps_ret (pe_callF G_total (hr.mono (by decide)) T.F_total.kp rfl T.g_total pass0 (pa_cons (pe_ix (xK_list (K := K) rfl) (pv 0) pe_int (fun _ _ => rfl)) (pa_cons (pe_ix (xK_list (K := K) rfl) (pv 0) pe_int (fun _ _ => rfl)) pa_nil)))))
        pss_nil)
      (pss_cons (ps_if (pt_cmpR op_eq (pe_callB (id := "len") (cK_len (K := K) rfl) (by rfl) T.z_len (by decide +kernel) (pa_cons (pv 0) pa_nil)) pe_int (nomark _))
        (pss_one (ps_ret (pe_callF G_total (hr.mono (by decide)) T.F_total.kp rfl T.g_total pass0 (pa_cons (pe_ix (xK_list (K := K) rfl) (pv 0) pe_int (fun _ _ => rfl)) (pa_cons (pe_ix (xK_list (K := K) rfl) (pv 0) pe_int (fun _ _ => rfl)) (pa_cons (pe_ix (xK_list (K := K) rfl) (pv 0) pe_int (fun _ _ => rfl)) pa_nil))))))
        pss_nil)
      (pss_cons (ps_if (pt_cmpR op_eq (pe_callB (id := "len") (cK_len (K := K) rfl) (by rfl) T.z_len (by decide +kernel) (pa_cons (pv 0) pa_nil)) pe_int (nomark _))
        (pss_one (ps_ret (pe_callF G_total (hr.mono (by decide)) T.F_total.kp rfl T.g_total pass0 (pa_cons (pe_ix (xK_list (K := K) rfl) (pv 0) pe_int (fun _ _ => rfl)) (pa_cons (pe_ix (xK_list (K := K) rfl) (pv 0) pe_int (fun _ _ => rfl)) (pa_cons (pe_ix (xK_list (K := K) rfl) (pv 0) pe_int (fun _ _ => rfl)) (pa_cons (pe_ix (xK_list (K := K) rfl) (pv 0) pe_int (fun _ _ => rfl)) pa_nil)))))))
        pss_nil)
      (pss_one (ps_ret (pe_callF G_total (hr.mono (by decide)) T.F_total.kp rfl T.g_total pass0 (pa_cons (pe_ix (xK_list (K := K) rfl) (pv 0) pe_int (fun _ _ => rfl)) (pa_cons (pe_ix (xK_list (K := K) rfl) (pv 0) pe_int (fun _ _ => rfl)) (pa_cons (pe_ix (xK_list (K := K) rfl) (pv 0) pe_int (fun _ _ => rfl)) (pa_cons (pe_ix (xK_list (K := K) rfl) (pv 0) pe_int (fun _ _ => rfl)) (pa_cons (pe_ix (xK_list (K := K) rfl) (pv 0) pe_int (fun _ _ => rfl)) pa_nil))))))))))))), ?_⟩
    have ln : xs.length = qs.length := by rw [hd.length, List.length_map]
    have fin : ∀ ys : List V, ys = xs → star 0 (sp_total K) ys H Q E0 := fun ys e => by
      subst e
      refine ⟨[], ys, rfl, rfl, sz (by omega), fun p hp => ?_⟩
      have kp := Kp.new (A := []) (o := .tup ys) hp
      exact ⟨p, ys, qs, rfl, SqT.of upd_same, hd.kp kp, ⟨by omega, hg⟩, fun r H' k s => q r H' (kp.trans k) s⟩
    have len : LenV K (.ref a) H xs.length := .inl ⟨_, ha, rfl⟩
    match xs, ln, ha, fin, len with
    | [], ln, ha, fin, len =>
      refine seq_ifK0 ⟨_, rfl, _, _, rfl, len, rfl, _, rfl, ?_⟩
      refine iteT ?_
      exact retK (fin [] rfl)
    | [v0], ln, ha, fin, len =>
      refine seq_ifK0 ⟨_, rfl, _, _, rfl, len, rfl, _, rfl, ?_⟩
      refine iteF ?_
      refine seq_ifK0 ⟨_, rfl, _, _, rfl, len, rfl, _, rfl, ?_⟩
      refine iteT ?_
      exact retK ⟨_, rfl, a, _, 0, v0, rfl, rfl, ha, rfl, fin _ rfl⟩
    | [v0, v1], ln, ha, fin, len =>
      refine seq_ifK0 ⟨_, rfl, _, _, rfl, len, rfl, _, rfl, ?_⟩
      refine iteF ?_
      refine seq_ifK0 ⟨_, rfl, _, _, rfl, len, rfl, _, rfl, ?_⟩
      refine iteF ?_
      refine seq_ifK0 ⟨_, rfl, _, _, rfl, len, rfl, _, rfl, ?_⟩
      refine iteT ?_
      exact retK ⟨_, rfl, a, _, 0, v0, rfl, rfl, ha, rfl, _, rfl, a, _, 1, v1, rfl, rfl, ha, rfl, fin _ rfl⟩
    | [v0, v1, v2], ln, ha, fin, len =>
      refine seq_ifK0 ⟨_, rfl, _, _, rfl, len, rfl, _, rfl, ?_⟩
      refine iteF ?_
      refine seq_ifK0 ⟨_, rfl, _, _, rfl, len, rfl, _, rfl, ?_⟩
      refine iteF ?_
      refine seq_ifK0 ⟨_, rfl, _, _, rfl, len, rfl, _, rfl, ?_⟩
      refine iteF ?_
      refine seq_ifK0 ⟨_, rfl, _, _, rfl, len, rfl, _, rfl, ?_⟩
      refine iteT ?_
      exact retK ⟨_, rfl, a, _, 0, v0, rfl, rfl, ha, rfl, _, rfl, a, _, 1, v1, rfl, rfl, ha, rfl, _, rfl, a, _, 2, v2, rfl, rfl, ha, rfl, fin _ rfl⟩
    | [v0, v1, v2, v3], ln, ha, fin, len =>
      refine seq_ifK0 ⟨_, rfl, _, _, rfl, len, rfl, _, rfl, ?_⟩
      refine iteF ?_
      refine seq_ifK0 ⟨_, rfl, _, _, rfl, len, rfl, _, rfl, ?_⟩
      refine iteF ?_
      refine seq_ifK0 ⟨_, rfl, _, _, rfl, len, rfl, _, rfl, ?_⟩
      refine iteF ?_
      refine seq_ifK0 ⟨_, rfl, _, _, rfl, len, rfl, _, rfl, ?_⟩
      refine iteF ?_
      refine seq_ifK0 ⟨_, rfl, _, _, rfl, len, rfl, _, rfl, ?_⟩
      refine iteT ?_
      exact retK ⟨_, rfl, a, _, 0, v0, rfl, rfl, ha, rfl, _, rfl, a, _, 1, v1, rfl, rfl, ha, rfl, _, rfl, a, _, 2, v2, rfl, rfl, ha, rfl, _, rfl, a, _, 3, v3, rfl, rfl, ha, rfl, fin _ rfl⟩
    | [v0, v1, v2, v3, v4], ln, ha, fin, len =>
      refine seq_ifK0 ⟨_, rfl, _, _, rfl, len, rfl, _, rfl, ?_⟩
      refine iteF ?_
      refine seq_ifK0 ⟨_, rfl, _, _, rfl, len, rfl, _, rfl, ?_⟩
      refine iteF ?_
      refine seq_ifK0 ⟨_, rfl, _, _, rfl, len, rfl, _, rfl, ?_⟩
      refine iteF ?_
      refine seq_ifK0 ⟨_, rfl, _, _, rfl, len, rfl, _, rfl, ?_⟩
      refine iteF ?_
      refine seq_ifK0 ⟨_, rfl, _, _, rfl, len, rfl, _, rfl, ?_⟩
      refine iteF ?_
      exact retK ⟨_, rfl, a, _, 0, v0, rfl, rfl, ha, rfl, _, rfl, a, _, 1, v1, rfl, rfl, ha, rfl, _, rfl, a, _, 2, v2, rfl, rfl, ha, rfl, _, rfl, a, _, 3, v3, rfl, rfl, ha, rfl, _, rfl, a, _, 4, v4, rfl, rfl, ha, rfl, fin _ rfl⟩
    | v0 :: v1 :: v2 :: v3 :: v4 :: v5 :: r, ln, ha, fin, len =>
      simp only [List.length_cons] at ln
      omega
def sp__law_ratios_right (K : PySem.W.Frag) : Sp := fun vs H Q _ => ∃ (s : Addr), vs = [.ref s] ∧ Src H s ∧ ∀ H', Kp [s] H H' → Q (.bl true) H'
theorem ok__law_ratios_right (T : Txt K mg A D) : FnOk P w K mg base CX0 5 (A 23) (D 23) ["_law_source_here"] (sp__law_ratios_right K) := by
  refine T.F__law_ratios_right.ok sc__law_ratios_right (fun vs H Q E h => ?_) (fun cdv A' outer s H vs Q E hr h => ?_)
  · obtain ⟨s, rfl, hs, q⟩ := h
    rfl
  · obtain ⟨s, rfl, hs, q⟩ := h
    have hu := hu_of hr
    have G__law_number : FnOk P w K mg base CX0 3 (A 16) (D 16) ["_law_source_here"] (sp__law_number K) := ok__law_number T
    have G__law_size : FnOk P w K mg base CX0 2 (A 15) (D 15) ["_law_source_here"] (sp__law_size K) := ok__law_size T
    have G__law_draw : FnOk P w K mg base CX0 1 (A 14) (D 14) ["_law_source_here", "_law_limit"] (sp__law_draw K) := ok__law_draw T
    have G__law_is : FnOk P w K mg base CX0 1 (A 20) (D 20) ["_law_actual", "_law_expected"] (sp__law_is K) := ok__law_is T
    have G_ratio : FnOk P w K mg base CX0 1 (A 2) (D 2) ["top", "bottom"] (sp_ratio K) := ok_ratio T
    have G__law_lowest : FnOk P w K mg base CX0 2 (A 18) (D 18) ["_law_top", "_law_bottom"] (sp__law_lowest K) := ok__law_lowest T
    have G__law_ratio : FnOk P w K mg base CX0 4 (A 19) (D 19) ["_law_source_here"] (sp__law_ratio K) := ok__law_ratio T
    have G_total : FnR P w K mg base CX0 2 (A 3) (star 0 (sp_total K)) := ok_total T
    have G__law_added : FnOk P w K mg base CX0 3 (A 21) (D 21) ["_law_parts"] (sp__law_added K) := ok__law_added T
    have G__law_total : FnOk P w K mg base CX0 3 (A 22) (D 22) ["_law_parts"] (sp__law_total K) := ok__law_total T
    have G_times : FnOk P w K mg base CX0 2 (A 4) (D 4) ["first", "second"] (sp_times K) := ok_times T
    have G_quotient : FnOk P w K mg base CX0 2 (A 5) (D 5) ["first", "second"] (sp_quotient K) := ok_quotient T
    have G_is_below : FnOk P w K mg base CX0 1 (A 6) (D 6) ["first", "second"] (sp_is_below K) := ok_is_below T
    refine ⟨_, (pss_cons (ps_set (i := 1) sc__law_ratios_right.nd rfl (Or.inl rfl) (pe_call G__law_number (hr.mono (by decide)) rfl T.g__law_number T.F__law_number.kp T.b__law_number .nil pass0 (pa_cons (pv 0) pa_nil)))
      (pss_cons (ps_set (i := 2) sc__law_ratios_right.nd rfl (Or.inl rfl) (pe_op op_add pe_int (pe_call G__law_size (hr.mono (by decide)) rfl T.g__law_size T.F__law_size.kp T.b__law_size .nil pass0 (pa_cons (pv 0) pa_nil))))
      (pss_cons (ps_if (pt_cmpR op_eq (pe_call G__law_draw (hr.mono (by decide)) rfl T.g__law_draw T.F__law_draw.kp T.b__law_draw .nil pass0 (pa_cons (pv 0) (pa_cons pe_int pa_nil))) pe_int (nomark _))
        (pss_one (ps_set (i := 2) sc__law_ratios_right.nd rfl (Or.inl rfl) (pe_un un_neg (pv 2))))
        pss_nil)
      (pss_cons (ps_if (PW.pt (pw_or (pt_not (pt_val (pe_call G__law_is (hr.mono (by decide)) rfl T.g__law_is T.F__law_is.kp T.b__law_is .nil pass0 (pa_cons (pe_call G_ratio (hr.mono (by decide)) rfl T.g_ratio T.F_ratio.kp T.b_ratio .nil pass0 (pa_cons (pv 1) (pa_cons (pv 2) pa_nil))) (pa_cons (pe_call G__law_lowest (hr.mono (by decide)) rfl T.g__law_lowest T.F__law_lowest.kp T.b__law_lowest .nil pass0 (pa_cons (pv 1) (pa_cons (pv 2) pa_nil))) pa_nil))))) (pw_or1 (pt_not (pt_val (pe_call G__law_is (hr.mono (by decide)) rfl T.g__law_is T.F__law_is.kp T.b__law_is .nil pass0 (pa_cons (pe_call G_ratio (hr.mono (by decide)) rfl T.g_ratio T.F_ratio.kp T.b1_ratio.choose_spec.2 T.b1_ratio.choose_spec.1 pass0 (pa_cons (pv 1) pa_nil)) (pa_cons (pe_tup (pa_cons (pv 1) (pa_cons pe_int pa_nil))) pa_nil))))))))
        (pss_one (ps_ret pe_bl))
        pss_nil)
      (pss_cons (ps_setLc (i := 3) (own := [("_law_k", 7)]) (g := gName 7) (tt := tYes) rfl sc__law_ratios_right.nd rfl rfl (sw_true rfl rfl rfl (by decide +kernel))  (pi_range1 rfl T.z_range (pa_cons (pe_call G__law_draw (hr.mono (by decide)) rfl T.g__law_draw T.F__law_draw.kp T.b__law_draw .nil pass0 (pa_cons (pv 0) (pa_cons pe_int pa_nil))) pa_nil)) (blkOk_by (N := N__law_ratios_right) (sc := defScope (topS 23)) (by decide +kernel)) (fun _ _ _ _ _ => (pg_name (i := 7) sc__law_ratios_right.nd rfl (Or.inl rfl))) (fun _ _ _ _ _ => pts_nil) (fun _ _ _ _ _ => (pe_call G__law_ratio (hr.mono (by decide)) rfl T.g__law_ratio T.F__law_ratio.kp T.b__law_ratio .nil pass0 (pa_cons (pv 0) pa_nil))))
      (pss_cons (ps_if (PW.pt (pw_or (pt_not (pt_val (pe_call G__law_is (hr.mono (by decide)) rfl T.g__law_is T.F__law_is.kp T.b__law_is .nil pass0 (pa_cons (pe_call G__law_total (hr.mono (by decide)) rfl T.g__law_total T.F__law_total.kp T.b__law_total .nil pass0 (pa_cons (pv 3) pa_nil)) (pa_cons (pe_call G__law_added (hr.mono (by decide)) rfl T.g__law_added T.F__law_added.kp T.b__law_added .nil pass0 (pa_cons (pv 3) pa_nil)) pa_nil))))) (pw_or1 (pt_not (pt_val (pe_call G__law_is (hr.mono (by decide)) rfl T.g__law_is T.F__law_is.kp T.b__law_is .nil pass0 (pa_cons (pe_callF0 G_total (hr.mono (by decide)) rfl T.g_total T.F_total.kp pass0) (pa_cons (pe_tup (pa_cons pe_int (pa_cons pe_int pa_nil))) pa_nil))))))))
        (pss_one (ps_ret pe_bl))
        pss_nil)
      (pss_cons (ps_set (i := 4) sc__law_ratios_right.nd rfl (Or.inl rfl) (pe_call G__law_ratio (hr.mono (by decide)) rfl T.g__law_ratio T.F__law_ratio.kp T.b__law_ratio .nil pass0 (pa_cons (pv 0) pa_nil)))
      (pss_cons (ps_set (i := 5) sc__law_ratios_right.nd rfl (Or.inl rfl) (pe_call G__law_ratio (hr.mono (by decide)) rfl T.g__law_ratio T.F__law_ratio.kp T.b__law_ratio .nil pass0 (pa_cons (pv 0) pa_nil)))
      (pss_cons (ps_if (pt_cmpR op_eq (pe_call G__law_draw (hr.mono (by decide)) rfl T.g__law_draw T.F__law_draw.kp T.b__law_draw .nil pass0 (pa_cons (pv 0) (pa_cons pe_int pa_nil))) pe_int (nomark _))
        (pss_one (ps_set (i := 5) sc__law_ratios_right.nd rfl (Or.inl rfl) (pv 4)))
        pss_nil)
      (pss_cons (ps_if (pt_not (pt_val (pe_call G__law_is (hr.mono (by decide)) rfl T.g__law_is T.F__law_is.kp T.b__law_is .nil pass0 (pa_cons (pe_call G_times (hr.mono (by decide)) rfl T.g_times T.F_times.kp T.b_times .nil pass0 (pa_cons (pv 4) (pa_cons (pv 5) pa_nil))) (pa_cons (pe_call G__law_lowest (hr.mono (by decide)) rfl T.g__law_lowest T.F__law_lowest.kp T.b__law_lowest .nil pass0 (pa_cons (pe_op op_mulW (pe_ix (xK_tup (K := K) rfl) (pv 4) pe_int (fun _ _ => rfl)) (pe_ix (xK_tup (K := K) rfl) (pv 5) pe_int (fun _ _ => rfl))) (pa_cons (pe_op op_mulW (pe_ix (xK_tup (K := K) rfl) (pv 4) pe_int (fun _ _ => rfl)) (pe_ix (xK_tup (K := K) rfl) (pv 5) pe_int (fun _ _ => rfl))) pa_nil))) pa_nil)))))
        (pss_one (ps_ret pe_bl))
        pss_nil)
      (pss_cons (ps_if (pt_cmpR op_ne (pe_ix (xK_tup (K := K) rfl) (pv 5) pe_int (fun _ _ => rfl)) pe_int (nomark _))
        (pss_one (ps_if (pt_not (pt_val (pe_call G__law_is (hr.mono (by decide)) rfl T.g__law_is T.F__law_is.kp T.b__law_is .nil pass0 (pa_cons (pe_call G_quotient (hr.mono (by decide)) rfl T.g_quotient T.F_quotient.kp T.b_quotient .nil pass0 (pa_cons (pv 4) (pa_cons (pv 5) pa_nil))) (pa_cons (pe_call G__law_lowest (hr.mono (by decide)) rfl T.g__law_lowest T.F__law_lowest.kp T.b__law_lowest .nil pass0 (pa_cons (pe_op op_mulW (pe_ix (xK_tup (K := K) rfl) (pv 4) pe_int (fun _ _ => rfl)) (pe_ix (xK_tup (K := K) rfl) (pv 5) pe_int (fun _ _ => rfl))) (pa_cons (pe_op op_mulW (pe_ix (xK_tup (K := K) rfl) (pv 4) pe_int (fun _ _ => rfl)) (pe_ix (xK_tup (K := K) rfl) (pv 5) pe_int (fun _ _ => rfl))) pa_nil))) pa_nil)))))
          (pss_one (ps_ret pe_bl))
          pss_nil))
        pss_nil)
      (pss_cons (ps_set (i := 6) sc__law_ratios_right.nd rfl (Or.inl rfl) (pe_call G_is_below (hr.mono (by decide)) rfl T.g_is_below T.F_is_below.kp T.b_is_below .nil pass0 (pa_cons (pv 4) (pa_cons (pv 5) pa_nil))))
      (pss_one (ps_ret (pe_and (pe_callB (id := "isinstance") (cK_isi (K := K) rfl) (by rfl) T.z_isinstance (by decide +kernel) (pa_cons (pv 6) (pa_cons (pe_bltn (v := .ty "bool") (u := .type "bool") (by rfl) T.z_bool (by decide +kernel) rfl) pa_nil))) (pe_one (pe_cmpR op_eq (pv 6) (pe_cmpR op_lt (pe_op op_mulW (pe_ix (xK_tup (K := K) rfl) (pv 4) pe_int (fun _ _ => rfl)) (pe_ix (xK_tup (K := K) rfl) (pv 5) pe_int (fun _ _ => rfl))) (pe_op op_mulW (pe_ix (xK_tup (K := K) rfl) (pv 5) pe_int (fun _ _ => rfl)) (pe_ix (xK_tup (K := K) rfl) (pv 4) pe_int (fun _ _ => rfl))) (nomark _)) (nomark _)))))))))))))))))), ?_⟩
    walk_at "st"
    refine ⟨_, rfl, s, rfl, hs, fun n H1 hn k1 s1 => ?_⟩
    walk_at "st"
    refine ⟨_, rfl, s, rfl, s1, fun m H2 m0 hm k2 s2 => ⟨_, _, rfl, rfl, ?_⟩⟩
    have hm1 : Sm 42 (1 + m) := by unfold Sm at *; omega
    refine' joinL (P := fun (b : Int) H3 => b ≠ 0 ∧ Sm 42 b ∧ Kp [s] H H3 ∧ Src H3 s) ?h2 (fun rest => ?h1)
    case h1 =>
      refine seq_ifK0 ⟨_, rfl, s, 2, rfl, s2, by decide, by decide, fun c H3 c0 c1 k3 s3 => ⟨rfl, _, rfl, ?_⟩⟩
      refine ite2 (fun c => ?_) (fun c => ?_)
      · refine setK ⟨_, rfl, _, rfl, ?_⟩
        dsimp only
        generalize eb : -(1 + m) = b
        exact rest b H3 ⟨by omega, by rw [← eb]; exact hm1.neg, k1.trans (k2.trans k3), s3⟩
      · dsimp only
        generalize eb : 1 + m = b at hm1 ⊢
        exact rest b H3 ⟨by omega, hm1, k1.trans (k2.trans k3), s3⟩
    rintro b H3 ⟨b0, hb, k3, s3⟩
    refine seq_ifK0 ?_
    have hn' : Sm 300 n := hn.le (by decide)
    refine ⟨_, rfl, _, rfl, n, b, rfl, b0, hb.le (by decide), fun p H4 k4 h4 => ⟨_, rfl, _, rfl, n, b, rfl, b0, hb.le (by decide), hn.prod hb (by decide), fun p2 H5 k5 h5 => ⟨p, p2, _, rfl, k5.sqT h4, h5, fun H6 k6 => ⟨_, rfl, ?_⟩⟩⟩⟩
    refine iteF ?_
    have s6 := (((s3.kp k4 List.not_mem_nil).kp k5 List.not_mem_nil).kp k6 List.not_mem_nil)
    have kk6 : Kp [s] H H6 := k3.trans (k4.nil.trans (k5.nil.trans k6.nil))
    refine ⟨_, rfl, n, 1, rfl, by decide, by unfold Sm; exact Nat.lt_of_lt_of_le (by decide : 1 < 2 ^ 1) (Nat.pow_le_pow_right (by decide) (by decide)), fun p3 H7 k7 h7 => ?_⟩
    rw [lowP_one] at h7
    refine ⟨_, rfl, sz (by simp), fun p4 hp4 => ?_⟩
    have k8 := Kp.new (A := []) (o := .tup [.int n, .int 1]) hp4
    refine ⟨p3, p4, (n, 1), rfl, k8.sqT h7, SqT.of upd_same, fun H9 k9 => ⟨_, rfl, ?_⟩⟩
    refine iteF ?_
    have s9 := (((s6.kp k7 List.not_mem_nil).kp k8 List.not_mem_nil).kp k9 List.not_mem_nil)
    have kk9 : Kp [s] H H9 := kk6.trans (k7.nil.trans (k8.nil.trans k9.nil))
    clear h4 h5 k4 k5 k6 k7 k8 k9 k1 k2 k3 s1 s2 s3
    walk_at "st"
    refine ⟨_, rfl, s, 6, rfl, s9, by decide, by decide, fun c H10 c0 c1 k10 s10 => ⟨c, rfl, by omega, by omega, fun D hD => lc_it walk_range (fun i H' => ∃ qs : List (Int × Int), qs.length = i ∧ (∀ q ∈ qs, DQ q) ∧ PvF [s] K 1 H10 D (qs.map prQ) H' ∧ Src H' s) ⟨[], rfl, (fun _ h => nomatch h), pvF_0 hD, s10.kp (Kp.new (A := []) hD) List.not_mem_nil⟩ (fun _ _ _ _ => trivial) ?_ ?_⟩⟩
    · have hD' := ne_src s10 hD
      rintro i w H11 H12 hi ⟨qs, ql, qd, pv, s11⟩ ⟨rfl, rfl⟩
      have hi' : i < c.toNat := hi
      refine gnK ⟨rfl, ?_⟩
      refine yesK ?_
      refine iteT ?_
      refine ⟨_, rfl, s, rfl, s11, fun r x H13 k13 s13 dq hr => ?_⟩
      obtain ⟨acc, c1', c2, c3⟩ := pv.step k13 (by simpa using hD') hD (by rw [List.length_map]; omega) (prQ_fd (n := 0) hr)
      refine ⟨acc, c1', c2, qs ++ [x], by simp [ql], ?_, c3.to (by rw [List.map_append]; rfl), s13.kp (Kp.own (A := [D]) c1' rfl (by simp)) (by simpa using Ne.symm hD')⟩
      intro y hy
      exact (List.mem_append.mp hy).elim (qd y) fun h => by rw [List.mem_singleton.mp h]; exact dq
    rintro H11 ⟨qs, ql, qd, pv, s11⟩
    obtain ⟨acc, a1, a2⟩ := pv.ex
    have kk11 : Kp [s] H H11 := kk9.trans (k10.trans pv.kp)
    refine seq_ifK0 ?_
    refine ⟨_, rfl, D, acc, qs, rfl, SqL.of a1, a2, by omega, fun q hq => (qd q hq).gq, fun r H12 k12 h12 => ⟨_, rfl, D, acc, qs, rfl, SqL.of (k12.get a1 (.inl List.not_mem_nil)), a2.kp k12, by omega, fun q hq => DQ_sm (qd q hq), fun r2 H13 k13 h13 => ⟨r, r2, _, rfl, k13.sqT h12, h13, fun H14 k14 => ⟨_, rfl, ?_⟩⟩⟩⟩
    refine iteF ?_
    refine ⟨[], [], rfl, rfl, sz (by simp), fun p5 hp5 => ?_⟩
    have k15 := Kp.new (A := []) (o := .tup []) hp5
    refine ⟨p5, [], [], rfl, SqT.of upd_same, .nil, ⟨by decide, fun _ h => nomatch h⟩, fun r5 H16 k16 h16 => ?_⟩
    refine ⟨sz (by simp), fun p6 hp6 => ?_⟩
    have k17 := Kp.new (A := []) (o := .tup [.int 0, .int 1]) hp6
    refine ⟨r5, p6, (0, 1), rfl, k17.sqT h16, SqT.of upd_same, fun H18 k18 => ⟨_, rfl, ?_⟩⟩
    refine iteF ?_
    have k1118 : Kp [] H11 H18 := k12.trans (k13.trans (k14.trans (k15.trans (k16.trans (k17.trans k18)))))
    have s18 := s11.kp k1118 List.not_mem_nil
    have kk18 := kk11.trans k1118.nil
    clear k1118 kk11 kk9 kk6 k12 k13 k14 k15 k16 k17 k18 h12 h13 h16 a1 a2 pv s11 s10
    walk_at "st"
    refine ⟨_, rfl, s, rfl, s18, fun u x H19 k19 s19 dx hu => ?_⟩
    walk_at "st"
    refine ⟨_, rfl, s, rfl, s19, fun v y H20 k20 s20 dy hv => ?_⟩
    have kk20 := kk18.trans (k19.trans k20)
    have hu20 := k20.sqT hu
    refine' joinL (P := fun (b : Addr) H' => Kp [s] H H' ∧ ∃ y, DQ y ∧ SqT K H' b [.int y.1, .int y.2] ∧ SqT K H' u [.int x.1, .int x.2]) ?g2 (fun rest => ?g1)
    case g1 =>
      refine seq_ifK0 ⟨_, rfl, s, 4, rfl, s20, by decide, by decide, fun c H21 c0 c1 k21 s21 => ⟨rfl, _, rfl, ?_⟩⟩
      refine' ite2 (fun c => ?t1) (fun c => ?t2)
      case t2 =>
        obtain ⟨z, ez⟩ : ∃ z, z = v := ⟨_, rfl⟩
        rw [← ez] at hv ⊢
        exact rest z H21 ⟨kk20.trans k21, y, dy, k21.sqT hv, k21.sqT hu20⟩
      case t1 =>
        refine setK ⟨_, rfl, ?_⟩
        exact rest u H21 ⟨kk20.trans k21, x, dx, k21.sqT hu20, k21.sqT hu20⟩
    clear hu hv hu20 k19 k20 kk20 kk18 s18 s19 s20 dy
    rintro v H22 ⟨kk22, y, dy, hv, hu⟩
    have sm1 : ∀ {i : Int}, Sm 42 i → Sm 300 i := fun h => h.le (by decide)
    have pr2 : ∀ {a b c d : Int}, Sm 42 a → Sm 42 b → Sm 42 c → Sm 42 d → (a * b).natAbs * (c * d).natAbs < 2 ^ 590 := fun h1 h2 h3 h4 => (h1.mul h2).prod (h3.mul h4) (by decide)
    have big : ∀ {a b : Int}, Sm 42 a → Sm 42 b → Sm 8000 (a * b) := fun h1 h2 => (h1.mul h2).le (by decide)
    have cm : ∀ {a b : Int}, Sm 42 a → Sm 42 b → CMulW a b := fun h1 h2 => h1.cmul h2 (by decide) (by decide) (by decide)
    refine seq_ifK0 ?_
    refine ⟨_, rfl, _, rfl, .ref u, .ref v, x, y, rfl, prQ_fd hu, prQ_fd hv, dx.gq, dy.gq, fun r H23 k23 h23 => ?_⟩
    have hu1 := k23.sqT hu
    have hv1 := k23.sqT hv
    refine ⟨_, rfl, u, _, 0, _, rfl, rfl, hu1, rfl, _, rfl, v, _, 0, _, rfl, rfl, hv1, rfl, _, _, rfl, rfl, cm dx.1 dy.1, _, rfl, u, _, 1, _, rfl, rfl, hu1, rfl, _, rfl, v, _, 1, _, rfl, rfl, hv1, rfl, _, _, rfl, rfl, cm dx.2.1 dy.2.1, _, _, rfl, Int.mul_ne_zero (Int.ne_of_gt dx.2.2) (Int.ne_of_gt dy.2.2), big dx.2.1 dy.2.1, pr2 dx.1 dy.1 dx.2.1 dy.2.1, fun r2 H24 k24 h24 => ⟨r, r2, _, rfl, k24.sqT h23, h24, fun H25 k25 => ⟨_, rfl, ?_⟩⟩⟩
    refine iteF ?_
    have k2225 := k23.trans (k24.trans k25)
    have kk25 := kk22.trans k2225.nil
    have hu2 := k2225.sqT hu
    have hv2 := k2225.sqT hv
    refine' joinH (P := fun H' => Kp [] H25 H') ?j2 (fun rest => ?j1)
    case j1 =>
      refine seq_ifK0 ⟨_, rfl, v, _, 0, _, rfl, rfl, hv2, rfl, rfl, _, rfl, ?_⟩
      refine ite2 (fun c => ?_) (fun c => ?_)
      · have y0 : y.1 ≠ 0 := by simpa using c
        refine if_anK ?_
        refine ⟨_, rfl, _, rfl, .ref u, .ref v, x, y, rfl, prQ_fd hu2, prQ_fd hv2, dx.gq, dy.gq, y0, fun r H23 k23 h23 => ?_⟩
        have hu1 := k23.sqT hu2
        have hv1 := k23.sqT hv2
        refine ⟨_, rfl, u, _, 0, _, rfl, rfl, hu1, rfl, _, rfl, v, _, 1, _, rfl, rfl, hv1, rfl, _, _, rfl, rfl, cm dx.1 dy.2.1, _, rfl, u, _, 1, _, rfl, rfl, hu1, rfl, _, rfl, v, _, 0, _, rfl, rfl, hv1, rfl, _, _, rfl, rfl, cm dx.2.1 dy.1, _, _, rfl, Int.mul_ne_zero (Int.ne_of_gt dx.2.2) y0, big dx.2.1 dy.1, pr2 dx.1 dy.2.1 dx.2.1 dy.1, fun r2 H24 k24 h24 => ⟨r, r2, _, rfl, k24.sqT h23, h24, fun H25 k25 => ⟨_, rfl, ?_⟩⟩⟩
        refine iteF ?_
        exact rest _ (k23.trans (k24.trans k25))
      · exact rest H25 Kp.refl
    rintro H26 k26
    have hu3 := k26.sqT hu2
    have hv3 := k26.sqT hv2
    walk_at "st"
    refine ⟨_, rfl, _, rfl, .ref u, .ref v, x, y, rfl, prQ_fd hu3, prQ_fd hv3, dx.gq, dy.gq, ?_⟩
    walk_at "st"
    refine ⟨_, rfl, _, _, _, _, true, rfl, .ty _, .base (.bl _), kit_ty (by decide +kernel), _, rfl, ?_⟩
    refine iteT ?_
    refine ⟨_, rfl, _, rfl, u, _, 0, _, rfl, rfl, hu3, rfl, _, rfl, v, _, 1, _, rfl, rfl, hv3, rfl, _, _, rfl, rfl, cm dx.1 dy.2.1, _, rfl, v, _, 0, _, rfl, rfl, hv3, rfl, _, rfl, u, _, 1, _, rfl, rfl, hu3, rfl, _, _, rfl, rfl, cm dy.1 dx.2.1, _, _, rfl, rfl, rfl, ?_⟩
    refine asB (q _ (kk25.trans k26.nil)) ?_
    simp
def sp__law_pairs (K : PySem.W.Frag) : Sp := fun vs H Q _ => ∃ (s : Addr), vs = [.ref s] ∧ Src H s ∧ ∀ p xs (ts : List (Str × Int)) H', H p = none → Kp [s] H H' → Src H' s → H' p = some (.lst xs) → FdAll K H' 1 xs (ts.map prD) → inP ts → ts.length ≤ 6 → (∀ x ∈ ts, Sm 41 x.2) → Q (.ref p) H'
theorem ok__law_pairs (T : Txt K mg A D) : FnOk P w K mg base CX0 4 (A 24) (D 24) ["_law_source_here"] (sp__law_pairs K) := by
  refine T.F__law_pairs.ok sc__law_pairs (fun vs H Q E h => ?_) (fun cdv A' outer s H vs Q E hr h => ?_)
  · obtain ⟨s, rfl, hs, q⟩ := h
    rfl
  · obtain ⟨s, rfl, hs, q⟩ := h
    have hu := hu_of hr
    have G__law_draw : FnOk P w K mg base CX0 1 (A 14) (D 14) ["_law_source_here", "_law_limit"] (sp__law_draw K) := ok__law_draw T
    have G__law_number : FnOk P w K mg base CX0 3 (A 16) (D 16) ["_law_source_here"] (sp__law_number K) := ok__law_number T
    refine ⟨_, (pss_cons (ps_set (i := 1) sc__law_pairs.nd rfl (Or.inl rfl) (pe_lst pa_nil))
      (pss_cons (ps_for PassesOwn.never rfl (pi_range1 rfl T.z_range (pa_cons (pe_call G__law_draw (hr.mono (by decide)) rfl T.g__law_draw T.F__law_draw.kp T.b__law_draw .nil pass0 (pa_cons (pv 0) (pa_cons pe_int pa_nil))) pa_nil)) (pg_name (i := 2) sc__law_pairs.nd rfl (Or.inl rfl))
        (pss_cons (ps_set (i := 3) sc__law_pairs.nd rfl (Or.inl rfl) (pe_ix (xK_list (K := K) rfl) (pe_lst (pa_cons pe_str (pa_cons pe_str (pa_cons pe_str (pa_cons pe_str (pa_cons pe_str pa_nil)))))) (pe_call G__law_draw (hr.mono (by decide)) rfl T.g__law_draw T.F__law_draw.kp T.b__law_draw .nil pass0 (pa_cons (pv 0) (pa_cons pe_int pa_nil))) (fun _ _ => rfl)))
        (pss_one (ps_expr (pe_bm PySem.F.plainAttrs_list PySem.F.slot_list_append PySem.F.type_list_append mt_append (pv 1) (pa_cons (pe_tup (pa_cons (pv 3) (pa_cons (pe_ifExp (pt_cmpR op_eq (pe_call G__law_draw (hr.mono (by decide)) rfl T.g__law_draw T.F__law_draw.kp T.b__law_draw .nil pass0 (pa_cons (pv 0) (pa_cons pe_int pa_nil))) pe_int (nomark _)) (pe_call G__law_number (hr.mono (by decide)) rfl T.g__law_number T.F__law_number.kp T.b__law_number .nil pass0 (pa_cons (pv 0) pa_nil)) (pe_op op_sub (pe_call G__law_draw (hr.mono (by decide)) rfl T.g__law_draw T.F__law_draw.kp T.b__law_draw .nil pass0 (pa_cons (pv 0) (pa_cons pe_int pa_nil))) pe_int)) pa_nil))) pa_nil))))))
      (pss_one (ps_ret (pv 1))))), ?_⟩
    walk_at "st"
    refine ⟨sz (by simp), fun l hl => ?_⟩
    have ls := ne_src hs hl
    have ls' : l ∉ [s] := by simpa using ls
    have kl : Kp [s] H (upd H l (.lst [])) := Kp.new hl
    refine seq_forK ⟨_, rfl, s, 7, rfl, hs.kp (Kp.new (A := []) hl) List.not_mem_nil, by decide, by decide, fun n H1 n0 n1 k1 s1 => ⟨n, rfl, by omega, by omega, for_seq walk_range (fun i σ H' => (∃ v2 v3 : Option V, σ = [some (.ref s), some (.ref l), v2, v3]) ∧ ∃ ts : List (Str × Int), ts.length = i ∧ inP ts ∧ (∀ x ∈ ts, Sm 41 x.2) ∧ PvF [s] K 1 H l (ts.map prD) H' ∧ Src H' s) ⟨⟨_, _, rfl⟩, [], rfl, (fun _ h => nomatch h), (fun _ h => nomatch h), ⟨⟨[], k1.get (a := l) upd_same (.inl ls'), .nil⟩, kl.trans k1⟩, s1⟩ (fun _ _ _ _ _ => trivial) ?_ ?_⟩⟩
    · rintro i w σ H2 H3 hi ⟨⟨v2, v3, rfl⟩, ts, tl, tp, tm, pv, s2⟩ ⟨rfl, rfl⟩
      have hi' : i < n.toNat := hi
      refine gnK ?_
      walk_at "st"
      refine ⟨sz (by simp), fun p hp => ?_⟩
      have ps := ne_src s2 hp
      have kp := Kp.new (A := []) (o := .lst [.str "b", .str "a", .str "a1", .str "c.d", .str "ab"]) hp
      refine ⟨_, rfl, s, 5, rfl, s2.kp kp List.not_mem_nil, by decide, by decide, fun j H4 j0 j1 k4 s4 => ?_⟩
      obtain ⟨j, rfl⟩ := Int.eq_ofNat_of_zero_le j0
      obtain ⟨nm, hnm, hin⟩ : ∃ nm : Str, ([.str "b", .str "a", .str "a1", .str "c.d", .str "ab"] : List V)[j]? = some (.str nm) ∧ nm ∈ poolS := by
        have : j = 0 ∨ j = 1 ∨ j = 2 ∨ j = 3 ∨ j = 4 := by omega
        rcases this with e | e | e | e | e <;> subst e
        · exact ⟨"b", rfl, by decide +kernel⟩
        · exact ⟨"a", rfl, by decide +kernel⟩
        · exact ⟨"a1", rfl, by decide +kernel⟩
        · exact ⟨"c.d", rfl, by decide +kernel⟩
        · exact ⟨"ab", rfl, by decide +kernel⟩
      refine ⟨p, _, _, .str nm, rfl, rfl, SqL.of (k4.get (a := p) upd_same (.inl (by simpa using ps))), atI_nat hnm, ?_⟩
      have k34 := kp.nil.trans k4
      have pv4 := pv.skip k34 ls'
      obtain ⟨acc0, c0, _⟩ := pv4.ex
      refine dropK' ?_
      refine ⟨_, rfl, .inl ⟨rfl, _, SqL.of c0⟩, _, rfl, _, rfl, s, 3, rfl, s4, by decide, by decide, fun r H5 r0 r1 k5 s5 => ⟨rfl, _, rfl, ?_⟩⟩
      have pv5 := pv4.skip k5 ls'
      have fin : ∀ (c : Int) H6, Sm 41 c → Kp [s] H5 H6 → Src H6 s → ∀ u, H6 u = none → ∃ acc, (upd H6 u (.tup [.str nm, .int c])) l = some (.lst acc) ∧ acc.length < sizeLine ∧ PvF [s] K 1 H l ((ts ++ [(nm, c)]).map prD) (upd (upd H6 u (.tup [.str nm, .int c])) l (.lst (acc ++ [.ref u]))) ∧ Src (upd (upd H6 u (.tup [.str nm, .int c])) l (.lst (acc ++ [.ref u]))) s := fun c H6 hc k6 s6 u hu => by
        obtain ⟨acc, c1, c2, c3⟩ := (pv5.skip k6 ls').step (Kp.new (A := [s]) (o := .tup [.str nm, .int c]) hu) ls' hl (by rw [List.length_map]; omega) (pr_fd (n := 0) (SqT.of upd_same))
        exact ⟨acc, c1, c2, c3.to (by rw [List.map_append]; rfl), (s6.kp (Kp.new (A := []) hu) List.not_mem_nil).kp (Kp.own (A := [l]) c1 rfl (by simp)) (by simpa using Ne.symm ls)⟩
      have fin2 : ∀ c : Int, Sm 41 c → inP (ts ++ [(nm, c)]) ∧ ∀ x ∈ ts ++ [(nm, c)], Sm 41 x.2 := fun c hc => ⟨inP_app tp fun x hx => by rw [List.mem_singleton.mp hx]; exact hin, fun x hx => (List.mem_append.mp hx).elim (tm x) fun h => by rw [List.mem_singleton.mp h]; exact hc⟩
      refine ite2 (fun c => ?_) (fun c => ?_)
      · refine ⟨_, rfl, s, rfl, s5, fun c H6 hc k6 s6 => ⟨sz (by simp), fun u hu => ?_⟩⟩
        obtain ⟨acc, c1, c2, c3, c4⟩ := fin c H6 hc k6 s6 u hu
        exact ⟨l, acc, _, rfl, rfl, c1, c2, ⟨_, _, rfl⟩, _, by simp [tl], (fin2 c hc).1, (fin2 c hc).2, c3, c4⟩
      · refine ⟨_, rfl, s, 5, rfl, s5, by decide, by decide, fun c H6 c0 c1 k6 s6 => ⟨_, _, rfl, rfl, sz (by simp), fun u hu => ?_⟩⟩
        have hc : Sm 41 (c - 2) := by unfold Sm; omega
        obtain ⟨acc, c1, c2, c3, c4⟩ := fin (c - 2) H6 hc k6 s6 u hu
        exact ⟨l, acc, _, rfl, rfl, c1, c2, ⟨_, _, rfl⟩, _, by simp [tl], (fin2 _ hc).1, (fin2 _ hc).2, c3, c4⟩
    rintro σ H2 ⟨⟨v2, v3, rfl⟩, ts, tl, tp, tm, pv, s2⟩
    obtain ⟨acc, c1, c2⟩ := pv.ex
    walk_at "st"
    exact ⟨_, rfl, q l acc ts _ hl pv.kp s2 c1 c2 tp (by omega) tm⟩
/-- a list of pairs -/
structure PL (K : PySem.W.Frag) (H : Hp) (a : Addr) (ts : List (Str × Int)) : Prop where
  ex : ∃ xs, H a = some (.lst xs) ∧ FdAll K H 1 xs (ts.map prD)
  n : inP ts
  l : ts.length ≤ 20
theorem PL.kp {A : List Addr} {H H' : Hp} {a : Addr} {ts : List (Str × Int)} (h : PL K H a ts) (k : Kp A H H') (n : a ∉ A) : PL K H' a ts := by
  obtain ⟨xs, h1, h2⟩ := h.ex
  exact ⟨⟨xs, k.get h1 (.inl n), h2.kp k⟩, h.n, h.l⟩
def sp__law_terms (K : PySem.W.Frag) : Sp := fun vs H Q _ => ∃ (a : Addr) (ts : List (Str × Int)), vs = [.ref a] ∧ PL K H a ts ∧ ∀ p H', Kp [] H H' → Fd K H' 2 (.ref p) (prsD (trm (sumN ts))) → Q (.ref p) H'
theorem ok__law_terms (T : Txt K mg A D) : FnOk P w K mg base CX0 1 (A 25) (D 25) ["_law_pairs_here"] (sp__law_terms K) := by
  refine T.F__law_terms.ok sc__law_terms (fun vs H Q E h => ?_) (fun cdv A' outer s H vs Q E hr h => ?_)
  · obtain ⟨a, ts, rfl, hp, q⟩ := h
    rfl
  · obtain ⟨a, ts, rfl, hp, q⟩ := h
    have hu := hu_of hr
    refine ⟨_, (pss_cons (ps_set (i := 1) sc__law_terms.nd rfl (Or.inl rfl) (pe_lst pa_nil))
      (pss_cons (ps_for PassesOwn.never rfl (iK_list (K := K) rfl (pe_lst (pa_cons pe_str (pa_cons pe_str (pa_cons pe_str (pa_cons pe_str (pa_cons pe_str pa_nil))))))) (pg_name (i := 2) sc__law_terms.nd rfl (Or.inr rfl))
        (pss_cons (ps_set (i := 3) sc__law_terms.nd rfl (Or.inl rfl) (pe_callB (id := "sum") (cr_sum rfl) (by rfl) T.z_sum (by decide +kernel) (pa_cons (pe_lc (own := [("_law_pair", 4)]) (g := gName 4)  rfl sc__law_terms.nd (iK_list (K := K) rfl (pv 0)) (blkOk_by (N := N__law_terms) (sc := defScope (topS 25)) (by decide +kernel)) (fun _ _ _ _ _ => (pg_name (i := 4) sc__law_terms.nd rfl (Or.inl rfl))) (fun _ _ _ _ _ => (pts_one (pt_cmpR op_eq (pe_ix (xK_tup (K := K) rfl) (pv 4) pe_int (fun _ _ => rfl)) (pv 2) (nomark _)))) (fun _ _ _ _ _ => (pe_ix (xK_tup (K := K) rfl) (pv 4) pe_int (fun _ _ => rfl)))) pa_nil)))
        (pss_one (ps_if (pt_cmpR op_ne (pv 3) pe_int (nomark _))
          (pss_one (ps_expr (pe_bm PySem.F.plainAttrs_list PySem.F.slot_list_append PySem.F.type_list_append mt_append (pv 1) (pa_cons (pe_tup (pa_cons (pv 2) (pa_cons (pv 3) pa_nil))) pa_nil))))
          pss_nil))))
      (pss_one (ps_ret (pe_callTy (T := "tuple") (cK_tuple (K := K) rfl) (by rfl) T.z_tuple (by decide +kernel) (pa_cons (pv 1) pa_nil)))))), ?_⟩
    obtain ⟨xs, hx, fx⟩ := hp.ex
    have ln : xs.length = ts.length := by rw [fx.length, List.length_map]
    walk_at "st"
    refine ⟨sz (by simp), fun l hl => ?_⟩
    have pv0 : PvF [] K 1 H l [] (upd H l (.lst [])) := pvF_0 hl
    refine seq_forK ?_
    refine ⟨sz (by simp), fun p0 hp0 => ?_⟩
    have kp0 := Kp.new (A := []) (o := .lst (poolS.map V.str)) hp0
    refine ⟨p0, rfl, ⟨_, SqL.of upd_same⟩, ?_⟩
    have h0 : (upd (upd H l (.lst [])) p0 (.lst (poolS.map V.str))) p0 = some (.lst (poolS.map V.str)) := upd_same
    have pv1 := pv0.skip kp0 List.not_mem_nil
    have kk := pv1.kp
    refine for_seq (walk_list (xs := poolS.map V.str)) (fun i σ H' => (∃ v2 v3 v4 : Option V, σ = [some (.ref a), some (.ref l), v2, v3, v4]) ∧ PvF [] K 1 H l ((((poolS.take i).filter fun n => decide (sumN ts n ≠ 0)).map fun n => (n, sumN ts n)).map prD) H' ∧ H' p0 = some (.lst (poolS.map V.str))) ⟨⟨_, _, _, rfl⟩, pv1, h0⟩ (fun i σ H' _ z => SqL.of z.2.2) ?_ ?_
    · rintro i w σ H4 H5 hi ⟨⟨v2, v3, v4, rfl⟩, pv, e4⟩ ⟨rfl, hw⟩
      rw [List.getElem?_map] at hw
      obtain ⟨n, hn, rfl⟩ := Option.map_eq_some_iff.mp hw
      have hx5 := pv.kp.get hx (.inl List.not_mem_nil)
      have fx5 := fx.kp pv.kp
      refine gnK ?_
      walk_at "st"
      refine ⟨_, rfl, a, rfl, ⟨_, SqL.of hx5⟩, fun D2 hD2 => lc_it walk_list (fun j H' => H' D2 = some (.lst ((((ts.take j).filter fun x => decide (x.1 = n)).map (·.2)).map V.int)) ∧ Kp [] H5 H') ⟨upd_same, Kp.new hD2⟩ (fun j H' _ z => z.2.sqL List.not_mem_nil (SqL.of hx5)) ?_ ?_⟩
      · rintro j w2 H6 H7 hj ⟨e6, k6⟩ ⟨rfl, hw2⟩
        obtain ⟨r, hr, fr⟩ := fx5.atm hw2
        obtain ⟨b, rfl, sb⟩ := prD_inv (fr.kp k6)
        have ln6 : (((ts.take j).filter fun x => decide (x.1 = n)).map (·.2)).length ≤ 20 := by have := tk_filLen (p := fun x : Str × Int => decide (x.1 = n)) (g := (·.2)) (xs := ts) j; have := hp.l; omega
        refine gnK ⟨rfl, ?_⟩
        refine ⟨_, rfl, b, _, 0, _, rfl, rfl, sb, rfl, _, rfl, rfl, _, rfl, ?_⟩
        refine ite2 (fun c => ?_) (fun c => ?_)
        · have c' : r.1 = n := by simpa using c
          refine ⟨_, rfl, b, _, 1, _, rfl, rfl, sb, rfl, _, e6, szl (by rw [List.length_map]; omega), ?_, k6.put hD2⟩
          rw [sumL_take hr, if_pos c', List.map_append]; exact upd_same
        · have c' : r.1 ≠ n := by simpa using c
          exact ⟨by rw [sumL_take hr, if_neg c', List.append_nil]; exact e6, k6⟩
      rintro H6 ⟨e6, k6⟩
      rw [ln, List.take_length] at e6
      refine ⟨D2, _, rfl, SqL.of e6, ?_⟩
      rw [sumL_eq]
      have pv6 := pv.skip k6 List.not_mem_nil
      have e6' := k6.get e4 (.inl List.not_mem_nil)
      have fl : (((poolS.take i).filter fun n => decide (sumN ts n ≠ 0)).map fun n => (n, sumN ts n)).length ≤ 5 := by have := tk_filLen (p := fun n => decide (sumN ts n ≠ 0)) (g := fun n => (n, sumN ts n)) (xs := poolS) i; have : poolS.length = 5 := rfl; omega
      have lp : l ≠ p0 := fun e => by rw [← e, upd_same] at hp0; cases hp0
      refine if_anK ?_
      refine ⟨_, rfl, rfl, _, rfl, ?_⟩
      refine ite2 (fun c => ?_) (fun c => ?_)
      · have c' : decide (sumN ts n ≠ 0) = true := by simpa using c
        refine dropK' ?_
        obtain ⟨acc0, c0, _⟩ := pv6.ex
        refine ⟨_, rfl, .inl ⟨rfl, _, SqL.of c0⟩, _, rfl, _, rfl, sz (by simp), fun u hu => ?_⟩
        have ku := Kp.new (A := []) (o := .tup [.str n, .int (sumN ts n)]) hu
        obtain ⟨acc, c1, c2, c3⟩ := pv6.step ku List.not_mem_nil hl (by rw [List.length_map]; omega) (pr_fd (n := 0) (SqT.of upd_same))
        refine ⟨l, acc, _, rfl, rfl, c1, c2, ⟨_, _, _, rfl⟩, c3.to ?_, ?_⟩
        · rw [tk_filT hn c', List.map_append]; rfl
        · rw [upd_ne (Ne.symm lp)]; exact ku.get e6' (.inl List.not_mem_nil)
      · have c' : decide (sumN ts n ≠ 0) = false := by simpa using c
        exact ⟨⟨_, _, _, rfl⟩, pv6.to (by rw [tk_filF hn c']), e6'⟩
    rintro σ H4 ⟨⟨v2, v3, v4, rfl⟩, pv, e4⟩
    obtain ⟨acc, c1, c2⟩ := pv.ex
    rw [List.length_map, List.take_length] at c2
    walk_at "st"
    refine ⟨_, rfl, l, acc, rfl, .inl ⟨SqL.of c1, fun u hu => ?_⟩⟩
    have ku := Kp.new (A := []) (o := .tup acc) hu
    exact q u _ (pv.kp.trans ku) (.tup (SqT.of upd_same) (c2.kp ku))
def sp__law_same (K : PySem.W.Frag) (C : Addr) : Sp := fun vs H Q _ => ∃ (x a : Addr) (f : Str → Int) (ts : List (Str × Int)), vs = [.ref x, .ref a] ∧ SumAt K C H x f ∧ PL K H a ts ∧ (∀ n ∈ poolS, f n = sumN ts n) ∧ ∀ H', Kp [] H H' → Q (.bl true) H'
theorem ok__law_same (T : Txt K mg A D) : FnOk P w K mg base CX0 3 (A 26) (D 26) ["_law_actual", "_law_pairs_here"] (sp__law_same K (A 11)) := by
  refine T.F__law_same.ok sc__law_same (fun vs H Q E h => ?_) (fun cdv A' outer s H vs Q E hr h => ?_)
  · obtain ⟨x, a, f, ts, rfl, hx, hp, e, q⟩ := h
    rfl
  · obtain ⟨x, a, f, ts, rfl, hx, hp, e, q⟩ := h
    have hu := hu_of hr
    have G__law_terms : FnOk P w K mg base CX0 1 (A 25) (D 25) ["_law_pairs_here"] (sp__law_terms K) := ok__law_terms T
    have G_Sum___len__ : FnOk P w K mg base CX0 1 (A 1221) (D 1221) ["self"] (sp_Sum___len__ K (A 11)) := ok_Sum___len__ T
    have G_Sum___iter__ : FnSz P w K mg base CX0 1 (A 1222) (D 1222) ["self"] (spIt K (sumC (A 11))) := ok_Sum___iter__ T
    have G_Sum___contains__ : FnOk P w K mg base CX0 1 (A 1223) (D 1223) ["self", "name"] (sp_Sum___contains__ K (A 11)) := ok_Sum___contains__ T
    have G_Sum___getitem__ : FnOk P w K mg base CX0 1 (A 1224) (D 1224) ["self", "name"] (sp_Sum___getitem__ K (A 11)) := ok_Sum___getitem__ T
    refine ⟨_, (pss_cons (ps_set (i := 2) sc__law_same.nd rfl (Or.inl rfl) (pe_call G__law_terms (hr.mono (by decide)) rfl T.g__law_terms T.F__law_terms.kp T.b__law_terms .nil pass0 (pa_cons (pv 1) pa_nil)))
      (pss_cons (ps_if (PW.pt (pw_or (pt_not (pt_val (pe_callB (id := "isinstance") (cK_isi (K := K) rfl) (by rfl) T.z_isinstance (by decide +kernel) (pa_cons (pe_fld (pv 0) rfl) (pa_cons (pe_bltn (v := .ty "tuple") (u := .type "tuple") (by rfl) T.z_tuple (by decide +kernel) rfl) pa_nil))))) (pw_or (pt_cmpR (oP_ne (K := K) rfl hr.units) (pe_fld (pv 0) rfl) (pv 2) (nomark _)) (pw_or1 (pt_cmpR op_ne (pe_callB (id := "len") (call_lenO T.M_Sum___len__ G_Sum___len__ (hr.mono (by decide)) T.b_Sum___len__ pass0) (by rfl) T.z_len (by decide +kernel) (pa_cons (pv 0) pa_nil)) (pe_callB (id := "len") (cK_len (K := K) rfl) (by rfl) T.z_len (by decide +kernel) (pa_cons (pv 2) pa_nil)) (nomark _))))))
        (pss_one (ps_ret pe_bl))
        pss_nil)
      (pss_cons (ps_if (pt_cmpR (oP_ne (K := K) rfl hr.units) (pe_lc (own := [("_law_term", 5)]) (g := gName 5) (tt := tYes) rfl sc__law_same.nd (pi_own (K := K) rfl T.M_Sum___iter__ G_Sum___iter__ (hr.mono (by decide)) T.b_Sum___iter__ (pv 0)) (blkOk_by (N := N__law_same) (sc := defScope (topS 26)) (by decide +kernel)) (fun _ _ _ _ _ => (pg_name (i := 5) sc__law_same.nd rfl (Or.inl rfl))) (fun _ _ _ _ _ => pts_nil) (fun _ _ _ _ _ => (pv 5))) (pe_callTy (T := "list") (cK_list (K := K) rfl) (by rfl) T.z_list (by decide +kernel) (pa_cons (pv 2) pa_nil)) (nomark _))
        (pss_one (ps_ret pe_bl))
        pss_nil)
      (pss_cons (ps_for PassesOwn.never rfl (iK_tup (K := K) rfl (pe_fld (pv 0) rfl)) (gK_tup (K := K) 2 rfl rfl (pgs_cons (pg_name (i := 3) sc__law_same.nd rfl (Or.inr rfl)) (pgs_cons (pg_name (i := 4) sc__law_same.nd rfl (Or.inl rfl)) pgs_nil)))
        (pss_one (ps_if (PW.pt (pw_or (pt_not (pt_val (pe_callB (id := "isinstance") (cK_isi (K := K) rfl) (by rfl) T.z_isinstance (by decide +kernel) (pa_cons (pv 4) (pa_cons (pe_bltn (v := .ty "int") (u := .type "int") (by rfl) T.z_int (by decide +kernel) rfl) pa_nil))))) (pw_or1 (pt_val (pe_callB (id := "isinstance") (cK_isi (K := K) rfl) (by rfl) T.z_isinstance (by decide +kernel) (pa_cons (pv 4) (pa_cons (pe_bltn (v := .ty "bool") (u := .type "bool") (by rfl) T.z_bool (by decide +kernel) rfl) pa_nil)))))))
          (pss_one (ps_ret pe_bl))
          pss_nil)))
      (pss_cons (ps_for PassesOwn.never rfl (iK_list (K := K) rfl (pe_lst (pa_cons pe_str (pa_cons pe_str (pa_cons pe_str (pa_cons pe_str (pa_cons pe_str pa_nil))))))) (pg_name (i := 3) sc__law_same.nd rfl (Or.inr rfl))
        (pss_cons (ps_set (i := 4) sc__law_same.nd rfl (Or.inl rfl) (pe_callB (id := "sum") (cr_sum rfl) (by rfl) T.z_sum (by decide +kernel) (pa_cons (pe_lc (own := [("_law_pair", 6)]) (g := gName 6)  rfl sc__law_same.nd (iK_list (K := K) rfl (pv 1)) (blkOk_by (N := N__law_same) (sc := defScope (topS 26)) (by decide +kernel)) (fun _ _ _ _ _ => (pg_name (i := 6) sc__law_same.nd rfl (Or.inl rfl))) (fun _ _ _ _ _ => (pts_one (pt_cmpR op_eq (pe_ix (xK_tup (K := K) rfl) (pv 6) pe_int (fun _ _ => rfl)) (pv 3) (nomark _)))) (fun _ _ _ _ _ => (pe_ix (xK_tup (K := K) rfl) (pv 6) pe_int (fun _ _ => rfl)))) pa_nil)))
        (pss_one (ps_if (PW.pt (pw_or (pt_cmpR op_ne (pe_ixO T.M_Sum___getitem__ (fnIn_of T.F_Sum___getitem__) G_Sum___getitem__ (hr.mono (by decide)) T.b_Sum___getitem__ pass0 (pv 0) (pv 3)) (pv 4) (nomark _)) (pw_or1 (pt_cmpR op_ne (pe_cmpR (op_inO T.M_Sum___contains__ G_Sum___contains__ (hr.mono (by decide)) T.b_Sum___contains__ pass0) (pv 3) (pv 0) rfl) (pe_cmpR op_ne (pv 4) pe_int (nomark _)) (nomark _)))))
          (pss_one (ps_ret pe_bl))
          pss_nil))))
      (pss_one (ps_ret pe_bl))))))), ?_⟩
    obtain ⟨dx, t, h1, h2⟩ := hx.ex
    rw [trm_congr e] at h2
    obtain ⟨xs, ha, fa⟩ := hp.ex
    have lx : xs.length = ts.length := by rw [fa.length, List.length_map]
    have l20 := hp.l
    have h2' := h2
    obtain ⟨t', ys, et, st, ft⟩ := h2.tup_inv
    cases et
    have ln : ys.length = (trm (sumN ts)).length := by rw [ft.length, List.length_map]
    have l5 := trm_len (sumN ts)
    walk_at "st"
    refine ⟨_, rfl, a, ts, rfl, hp, fun p H1 k1 f1 => ?_⟩
    have x1 := k1.get h1 (.inl List.not_mem_nil)
    have st1 := k1.sqT st
    have f1' := f1
    obtain ⟨p', zs, ep, sp1, fp⟩ := f1.tup_inv
    cases ep
    have lz : zs.length = (trm (sumN ts)).length := by rw [fp.length, List.length_map]
    refine seq_ifK0 ?_
    refine ⟨_, rfl, x, A 11, dx, _, _, rfl, x1, T.cl_Sum, T.n_Sum_terms, rfl, _, _, _, _, true, rfl, .ty _, tyx_tup st1, kit_ty (by decide +kernel), _, rfl, ?_⟩
    refine iteF ?_
    refine ⟨_, rfl, x, A 11, dx, _, _, rfl, x1, T.cl_Sum, T.n_Sum_terms, rfl, _, rfl, _, _, (h2'.kp k1).dp, f1'.dp, h2'.pln (by decide), f1'.pln (by decide), _, rfl, ?_⟩
    rw [eqv_same h2'.plain]
    refine iteF ?_
    have et : trm f = trm (sumN ts) := trm_congr e
    refine ⟨_, rfl, x, dx, _, rfl, x1, x, f, rfl, hx.kp k1 List.not_mem_nil, ⟨(trm f).length, rfl, by rw [et]; omega, _, rfl, _, (trm f).length, rfl, .inr ⟨_, sp1, by rw [lz, et]⟩, rfl, _, rfl, ?_⟩⟩
    refine ite2 (fun c => absurd c (by simp)) (fun _ => ?_)
    refine seq_ifK0 ?_
    refine ⟨_, rfl, x, dx, _, t, ys, rfl, x1, ⟨dx, x1⟩, st1, fun D hD => lc_it walk_tup (fun i H' => H' D = some (.lst (ys.take i)) ∧ Kp [] H1 H') ⟨upd_same, Kp.new hD⟩ (fun i H' _ z => z.2.sqT st1) ?_ ?_⟩
    · rintro i w H2 H3 hi ⟨e2, k2⟩ ⟨rfl, hw⟩
      refine gnK ⟨rfl, ?_⟩
      refine yesK ?_
      refine iteT ?_
      refine ⟨_, rfl, _, e2, szl (by rw [List.length_take]; omega), ?_, k2.put hD⟩
      rw [List.take_add_one, hw]; exact upd_same
    rintro H2 ⟨e2, k2⟩
    rw [List.take_length] at e2
    have sp2 := k2.sqT sp1
    refine ⟨_, rfl, p, zs, rfl, .inr sp2, fun l hl => ?_⟩
    have k3 := Kp.new (A := []) (o := .lst zs) hl
    have e3 := k3.get e2 (.inl List.not_mem_nil)
    have ft3 := ((ft.kp k1).kp k2).kp k3
    have fp3 := (fp.kp k2).kp k3
    refine ⟨_, _, lst_dp (SqL.of e3) ft3, lst_dp (SqL.of upd_same) fp3, lst_pln ft3 (by decide), lst_pln fp3 (by decide), _, rfl, ?_⟩
    rw [eqv_same (lst_pln ft3 (by decide)).1]
    refine iteF ?_
    have k13 : Kp [] H1 (upd H2 l (.lst zs)) := k2.trans k3
    have x3 := k13.get x1 (.inl List.not_mem_nil)
    have st3 := k13.sqT st1
    have kk3 : Kp [] H (upd H2 l (.lst zs)) := k1.trans k13
    generalize upd H2 l (.lst zs) = H3 at ft3 fp3 k13 x3 st3 kk3 ⊢
    clear e3 k3 e2 k2 hl sp2
    refine seq_forK ?_
    refine ⟨_, rfl, x, A 11, dx, _, _, rfl, x3, T.cl_Sum, T.n_Sum_terms, rfl, t, rfl, ⟨_, st3⟩, for_seq walk_tup (fun i σ H' => (∃ v3 v4 v5 v6 : Option V, σ = [some (.ref x), some (.ref a), some (.ref p), v3, v4, v5, v6]) ∧ H' = H3) ⟨⟨_, _, _, _, rfl⟩, rfl⟩ (fun i σ H' _ z => by rw [z.2]; exact st3) ?_ ?_⟩
    · rintro i w σ H4 H5 hi ⟨⟨v3, v4, v5, v6, rfl⟩, rfl⟩ ⟨rfl, hw⟩
      obtain ⟨r, hr, fr⟩ := ft3.atm hw
      obtain ⟨b, rfl, sb⟩ := prD_inv fr
      refine ⟨b, _, rfl, sb, rfl, _, _, rfl, gnK ⟨_, _, rfl, gnK ⟨rfl, ?_⟩⟩⟩
      dsimp only
      refine if_anK ?_
      refine ⟨_, rfl, _, _, _, _, true, rfl, .ty _, .base (.int _), kit_ty (by decide +kernel), _, rfl, ?_⟩
      refine iteF ?_
      refine ⟨_, rfl, _, _, _, _, false, rfl, .ty _, .base (.int _), kit_ty (by decide +kernel), _, rfl, ?_⟩
      refine iteF ?_
      exact ⟨⟨_, _, _, _, rfl⟩, rfl⟩
    rintro σ H4 ⟨⟨v3, v4, v5, v6, rfl⟩, rfl⟩
    refine seq_forK ?_
    refine ⟨sz (by simp), fun p0 hp0 => ?_⟩
    have kp0 := Kp.new (A := []) (o := .lst (poolS.map V.str)) hp0
    refine ⟨p0, rfl, ⟨_, SqL.of upd_same⟩, ?_⟩
    have h0 : (upd H4 p0 (.lst (poolS.map V.str))) p0 = some (.lst (poolS.map V.str)) := upd_same
    refine for_seq (walk_list (xs := poolS.map V.str)) (fun i σ H' => (∃ v3 v4 v5 v6 : Option V, σ = [some (.ref x), some (.ref a), some (.ref p), v3, v4, v5, v6]) ∧ Kp [] H H' ∧ H' p0 = some (.lst (poolS.map V.str))) ⟨⟨_, _, _, _, rfl⟩, kk3.trans kp0, h0⟩ (fun i σ H' _ z => SqL.of z.2.2) ?_ ?_
    · rintro i w σ H6 H5 hi ⟨⟨v3, v4, v5, v6, rfl⟩, kk5, e5⟩ ⟨rfl, hw⟩
      rw [List.getElem?_map] at hw
      obtain ⟨n, hn', rfl⟩ := Option.map_eq_some_iff.mp hw
      have hn := List.mem_of_getElem? hn'
      have hx5 := kk5.get ha (.inl List.not_mem_nil)
      have fx5 := fa.kp kk5
      refine gnK ?_
      walk_at "st"
      refine ⟨_, rfl, a, rfl, ⟨_, SqL.of hx5⟩, fun D2 hD2 => lc_it walk_list (fun j H' => H' D2 = some (.lst ((((ts.take j).filter fun x => decide (x.1 = n)).map (·.2)).map V.int)) ∧ Kp [] H5 H') ⟨upd_same, Kp.new hD2⟩ (fun j H' _ z => z.2.sqL List.not_mem_nil (SqL.of hx5)) ?_ ?_⟩
      · rintro j w2 H6 H7 hj ⟨e6, k6⟩ ⟨rfl, hw2⟩
        obtain ⟨r, hr, fr⟩ := fx5.atm hw2
        obtain ⟨b, rfl, sb⟩ := prD_inv (fr.kp k6)
        have ln6 : (((ts.take j).filter fun x => decide (x.1 = n)).map (·.2)).length ≤ 20 := by have := tk_filLen (p := fun x : Str × Int => decide (x.1 = n)) (g := (·.2)) (xs := ts) j; have := hp.l; omega
        refine gnK ⟨rfl, ?_⟩
        refine ⟨_, rfl, b, _, 0, _, rfl, rfl, sb, rfl, _, rfl, rfl, _, rfl, ?_⟩
        refine ite2 (fun c => ?_) (fun c => ?_)
        · have c' : r.1 = n := by simpa using c
          refine ⟨_, rfl, b, _, 1, _, rfl, rfl, sb, rfl, _, e6, szl (by rw [List.length_map]; omega), ?_, k6.put hD2⟩
          rw [sumL_take hr, if_pos c', List.map_append]; exact upd_same
        · have c' : r.1 ≠ n := by simpa using c
          exact ⟨by rw [sumL_take hr, if_neg c', List.append_nil]; exact e6, k6⟩
      rintro H6 ⟨e6, k6⟩
      rw [lx, List.take_length] at e6
      refine ⟨D2, _, rfl, SqL.of e6, ?_⟩
      rw [sumL_eq]
      have kk6 := kk5.trans k6
      have x6 := kk6.get h1 (.inl List.not_mem_nil)
      have hx6 := hx.kp kk6 List.not_mem_nil
      refine if_anK ?_
      refine ⟨_, rfl, _, rfl, x, dx, _, rfl, x6, x, f, n, rfl, hx6, hn, _, rfl, rfl, _, rfl, ?_⟩
      rw [e n hn]
      refine ite2 (fun c => absurd c (by simp)) (fun _ => ?_)
      refine ⟨_, rfl, _, rfl, x, dx, _, rfl, x6, x, f, n, rfl, hx6, hn, fun H7 k7 => ⟨_, rfl, _, rfl, rfl, rfl, _, rfl, ?_⟩⟩
      rw [e n hn]
      refine ite2 (fun c => absurd c (by simp)) (fun _ => ?_)
      exact ⟨⟨_, _, _, _, rfl⟩, kk6.trans k7, k7.get (k6.get e5 (.inl List.not_mem_nil)) (.inl List.not_mem_nil)⟩
    rintro σ H5 ⟨⟨v3, v4, v5, v6, rfl⟩, kk5, e5⟩
    walk_at "st"
    exact q _ kk5
def sp__law_scaled (K : PySem.W.Frag) : Sp := fun vs H Q _ => ∃ (a : Addr) (ts : List (Str × Int)) (c : Int), vs = [.ref a, .int c] ∧ PL K H a ts ∧ (∀ x ∈ ts, Sm 41 x.2) ∧ Sm 41 c ∧ ∀ p H', H p = none → Kp [] H H' → PL K H' p (ts.map fun x => (x.1, c * x.2)) → Q (.ref p) H'
theorem ok__law_scaled (T : Txt K mg A D) : FnOk P w K mg base CX0 1 (A 27) (D 27) ["_law_pairs_here", "_law_factor"] (sp__law_scaled K) := by
  refine T.F__law_scaled.ok sc__law_scaled (fun vs H Q E h => ?_) (fun cdv A' outer s H vs Q E hr h => ?_)
  · obtain ⟨a, ts, c, rfl, hp, hs, hc, q⟩ := h
    rfl
  · obtain ⟨a, ts, c, rfl, hp, hs, hc, q⟩ := h
    have hu := hu_of hr
    refine ⟨_, (pss_one (ps_ret (pe_lc (own := [("_law_pair", 2)]) (g := gName 2) (tt := tYes) rfl sc__law_scaled.nd (iK_list (K := K) rfl (pv 0)) (blkOk_by (N := N__law_scaled) (sc := defScope (topS 27)) (by decide +kernel)) (fun _ _ _ _ _ => (pg_name (i := 2) sc__law_scaled.nd rfl (Or.inl rfl))) (fun _ _ _ _ _ => pts_nil) (fun _ _ _ _ _ => (pe_tup (pa_cons (pe_ix (xK_tup (K := K) rfl) (pv 2) pe_int (fun _ _ => rfl)) (pa_cons (pe_op op_mulW (pv 1) (pe_ix (xK_tup (K := K) rfl) (pv 2) pe_int (fun _ _ => rfl))) pa_nil))))))), ?_⟩
    obtain ⟨xs, hx, fx⟩ := hp.ex
    have ln : xs.length = ts.length := by rw [fx.length, List.length_map]
    have l20 := hp.l
    walk_at "st"
    refine ⟨_, rfl, a, rfl, ⟨_, SqL.of hx⟩, fun D hD => lc_it walk_list (fun i H' => PvF [] K 1 H D (((ts.take i).map fun x => (x.1, c * x.2)).map prD) H') (pvF_0 hD) (fun i H' _ z => z.kp.sqL List.not_mem_nil (SqL.of hx)) ?_ ?_⟩
    · rintro i w H1 H2 hi pv ⟨rfl, hw⟩
      obtain ⟨p, hp', fp⟩ := fx.atm hw
      obtain ⟨b, rfl, sb⟩ := prD_inv (fp.kp pv.kp)
      have pm := List.mem_of_getElem? hp'
      refine gnK ⟨rfl, ?_⟩
      refine yesK ?_
      refine iteT ?_
      refine ⟨_, rfl, b, _, 0, _, rfl, rfl, sb, rfl, _, rfl, _, rfl, b, _, 1, _, rfl, rfl, sb, rfl, _, _, rfl, rfl, hc.cmul (hs p pm) (by decide) (by decide) (by decide), sz (by simp), fun u hu => ?_⟩
      obtain ⟨acc, c1, c2, c3⟩ := pv.step (Kp.new (A := []) (o := .tup [.str p.1, .int (c * p.2)]) hu) List.not_mem_nil hD (by rw [List.length_map, List.length_map, List.length_take]; omega) (pr_fd (n := 0) (SqT.of upd_same))
      refine ⟨acc, c1, c2, c3.to ?_⟩
      rw [tk_map hp', List.map_append]; rfl
    rintro H1 pv
    obtain ⟨acc, c1, c2⟩ := pv.ex
    rw [ln, List.take_length] at c2
    exact q D _ hD pv.kp ⟨⟨acc, c1, c2⟩, inP_map hp.n _, by rw [List.length_map]; exact l20⟩
theorem mk_sumA {C : Addr} {H H1 : Hp} {a : Addr} {xs : List V} {ts : List (Str × Int)} {R : Addr → Hp → Prop} {E : XK} (k0 : Kp [] H H1) (hq : Sq K H1 a xs) (hd : FdAll K H1 1 xs (ts.map prD)) (hp : inP ts) (hl : ts.length ≤ 100)
    (q : ∀ z H', Kp [] H H' → SumAt K C H' z (sumN ts) → R z H') : ∀ x dx, H1 x = none → H1 dx = none → dx ≠ x → sp_Sum___init__ K C ((.ref x :: [.ref a]) ++ []) (upd (upd H1 dx (.own x)) x (.ins C dx [])) (fun v H2 => v = .non ∧ R x H2) E :=
  fun x dx hx hdx ne => by
  have k1 : Kp [] H1 (upd (upd H1 dx (.own x)) x (.ins C dx [])) := (Kp.new hdx).trans (Kp.new (by rw [upd_ne (Ne.symm ne)]; exact hx))
  refine ⟨x, dx, a, xs, ts, rfl, upd_same, hq.imp (fun s => k1.sqL List.not_mem_nil s) (fun s => k1.sqT s), hd.kp k1, hp, hl, fun H' k s => ⟨rfl, q x H' (k0.trans ?_) s⟩⟩
  exact Kp.back hx (k1.nil.trans k)
theorem plCat {H : Hp} {a b : Addr} {ts us : List (Str × Int)} {Q : VK} (ha : PL K H a ts) (hb : PL K H b us) (hl : ts.length + us.length ≤ 20) (q : ∀ p H', Kp [] H H' → PL K H' p (ts ++ us) → Q (.ref p) H') : rCat (.ref a) (.ref b) H Q := by
  obtain ⟨xs, h1, h2⟩ := ha.ex
  obtain ⟨ys, g1, g2⟩ := hb.ex
  refine ⟨a, b, xs, ys, rfl, rfl, h1, g1, sz (by rw [h2.length, g2.length, List.length_map, List.length_map]; omega), fun p hp => ?_⟩
  have k := Kp.new (A := []) (o := .lst (xs ++ ys)) hp
  exact q p _ k ⟨⟨_, upd_same, by rw [List.map_append]; exact (h2.kp k).app (g2.kp k)⟩, inP_app ha.n hb.n, by rw [List.length_append]; exact hl⟩
theorem pl0 {H : Hp} {p : Addr} : PL K (upd H p (.lst [])) p [] := ⟨⟨[], upd_same, .nil⟩, (fun _ h => nomatch h), by decide⟩
theorem PL.k0 {H H' : Hp} {a : Addr} {ts : List (Str × Int)} (h : PL K H a ts) (k : Kp [] H H') : PL K H' a ts := h.kp k List.not_mem_nil
theorem SumAt.k0 {C : Addr} {H H' : Hp} {a : Addr} {f : Str → Int} (h : SumAt K C H a f) (k : Kp [] H H') : SumAt K C H' a f := h.kp k List.not_mem_nil
def sp__law_signs_right (K : PySem.W.Frag) : Sp := fun vs H Q _ => ∃ (a b : Addr) (ts us : List (Str × Int)) (c : Int), vs = [.ref a, .ref b, .int c] ∧ PL K H a ts ∧ PL K H b us ∧ ts.length ≤ 8 ∧ us.length ≤ 8 ∧ (∀ x ∈ ts, Sm 41 x.2) ∧ (∀ x ∈ us, Sm 41 x.2) ∧ Sm 41 c ∧ ∀ H', Kp [] H H' → Q (.bl true) H'
theorem ok__law_signs_right (T : Txt K mg A D) : FnOk P w K mg base CX0 6 (A 28) (D 28) ["_law_left", "_law_right", "_law_factor"] (sp__law_signs_right K) := by
  refine T.F__law_signs_right.ok sc__law_signs_right (fun vs H Q E h => ?_) (fun cdv A' outer s H vs Q E hr h => ?_)
  · obtain ⟨a, b, ts, us, c, rfl, ha, hb, l1, l2, hs1, hs2, hc, q⟩ := h
    rfl
  · obtain ⟨a, b, ts, us, c, rfl, ha, hb, l1, l2, hs1, hs2, hc, q⟩ := h
    have hu := hu_of hr
    have G_Sum___init__ : FnOk P w K mg base CX0 2 (A 1220) (D 1220) ["self", "terms"] (sp_Sum___init__ K (A 11)) := ok_Sum___init__ T
    have G__law_same : FnOk P w K mg base CX0 3 (A 26) (D 26) ["_law_actual", "_law_pairs_here"] (sp__law_same K (A 11)) := ok__law_same T
    have G__law_scaled : FnOk P w K mg base CX0 1 (A 27) (D 27) ["_law_pairs_here", "_law_factor"] (sp__law_scaled K) := ok__law_scaled T
    have G_Sum___sub__ : FnOk P w K mg base CX0 5 (A 1227) (D 1227) ["self", "other"] (sp_Sum___sub__ K (A 11)) := ok_Sum___sub__ T
    have G_Sum___add__ : FnOk P w K mg base CX0 4 (A 1225) (D 1225) ["self", "other"] (sp_Sum___add__ K (A 11)) := ok_Sum___add__ T
    have G_Sum___neg__ : FnOk P w K mg base CX0 4 (A 1226) (D 1226) ["self"] (sp_Sum___neg__ K (A 11)) := ok_Sum___neg__ T
    have G_Sum___mul__ : FnOk P w K mg base CX0 4 (A 1228) (D 1228) ["self", "factor"] (sp_Sum___mul__ K (A 11)) := ok_Sum___mul__ T
    have G_Sum___rmul__ : FnOk P w K mg base CX0 5 (A 1229) (D 1229) ["self", "factor"] (sp_Sum___rmul__ K (A 11)) := ok_Sum___rmul__ T
    refine ⟨_, (pss_cons (ps_set (i := 3) sc__law_signs_right.nd rfl (Or.inl rfl) (pe_makeO T.mk_Sum G_Sum___init__ (hr.mono (by decide)) rfl T.g_Sum T.b_Sum___init__ .nil (pas0 pass0) (pa_cons (pe_callTy (T := "tuple") (cK_tuple (K := K) rfl) (by rfl) T.z_tuple (by decide +kernel) (pa_cons (pv 0) pa_nil)) pa_nil)))
      (pss_cons (ps_set (i := 4) sc__law_signs_right.nd rfl (Or.inl rfl) (pe_makeO T.mk_Sum G_Sum___init__ (hr.mono (by decide)) rfl T.g_Sum T.b_Sum___init__ .nil (pas0 pass0) (pa_cons (pe_callTy (T := "list") (cK_list (K := K) rfl) (by rfl) T.z_list (by decide +kernel) (pa_cons (pv 1) pa_nil)) pa_nil)))
      (pss_cons (ps_if (PW.pt (pw_or (pt_not (pt_val (pe_call G__law_same (hr.mono (by decide)) rfl T.g__law_same T.F__law_same.kp T.b__law_same .nil pass0 (pa_cons (pe_opOO T.sf_Sum T.M_Sum___add__ G_Sum___add__ (hr.mono (by decide)) T.b_Sum___add__ (pas0 pass0) (pv 3) (pv 4)) (pa_cons (pe_op op_cat (pv 0) (pv 1)) pa_nil))))) (pw_or1 (pt_not (pt_val (pe_call G__law_same (hr.mono (by decide)) rfl T.g__law_same T.F__law_same.kp T.b__law_same .nil pass0 (pa_cons (pe_opOO T.sf_Sum T.M_Sum___sub__ G_Sum___sub__ (hr.mono (by decide)) T.b_Sum___sub__ (pas0 pass0) (pv 3) (pv 4)) (pa_cons (pe_op op_cat (pv 0) (pe_call G__law_scaled (hr.mono (by decide)) rfl T.g__law_scaled T.F__law_scaled.kp T.b__law_scaled .nil pass0 (pa_cons (pv 1) (pa_cons (pe_un un_neg pe_int) pa_nil)))) pa_nil))))))))
        (pss_one (ps_ret pe_bl))
        pss_nil)
      (pss_cons (ps_if (PW.pt (pw_or (pt_not (pt_val (pe_call G__law_same (hr.mono (by decide)) rfl T.g__law_same T.F__law_same.kp T.b__law_same .nil pass0 (pa_cons (pe_un (un_negO T.M_Sum___neg__ G_Sum___neg__ (hr.mono (by decide)) T.b_Sum___neg__ pass0) (pv 3)) (pa_cons (pe_call G__law_scaled (hr.mono (by decide)) rfl T.g__law_scaled T.F__law_scaled.kp T.b__law_scaled .nil pass0 (pa_cons (pv 0) (pa_cons (pe_un un_neg pe_int) pa_nil))) pa_nil))))) (pw_or1 (pt_not (pt_val (pe_call G__law_same (hr.mono (by decide)) rfl T.g__law_same T.F__law_same.kp T.b__law_same .nil pass0 (pa_cons (pe_opOO T.sf_Sum T.M_Sum___sub__ G_Sum___sub__ (hr.mono (by decide)) T.b_Sum___sub__ (pas0 pass0) (pv 3) (pv 3)) (pa_cons (pe_lst pa_nil) pa_nil))))))))
        (pss_one (ps_ret pe_bl))
        pss_nil)
      (pss_cons (ps_if (pt_not (pt_val (pe_call G__law_same (hr.mono (by decide)) rfl T.g__law_same T.F__law_same.kp T.b__law_same .nil pass0 (pa_cons (pe_opO T.B_Sum_Mult_int T.M_Sum___mul__ G_Sum___mul__ (hr.mono (by decide)) T.b_Sum___mul__ (pas0 pass0) (pv 3) (pv 2)) (pa_cons (pe_call G__law_scaled (hr.mono (by decide)) rfl T.g__law_scaled T.F__law_scaled.kp T.b__law_scaled .nil pass0 (pa_cons (pv 0) (pa_cons (pv 2) pa_nil))) pa_nil)))))
        (pss_one (ps_ret pe_bl))
        pss_nil)
      (pss_cons (ps_if (pt_not (pt_val (pe_call G__law_same (hr.mono (by decide)) rfl T.g__law_same T.F__law_same.kp T.b__law_same .nil pass0 (pa_cons (pe_mulR T.R_Sum T.M_Sum___rmul__ G_Sum___rmul__ (hr.mono (by decide)) T.b_Sum___rmul__ (pas0 pass0) (pv 2) (pv 4)) (pa_cons (pe_call G__law_scaled (hr.mono (by decide)) rfl T.g__law_scaled T.F__law_scaled.kp T.b__law_scaled .nil pass0 (pa_cons (pv 1) (pa_cons (pv 2) pa_nil))) pa_nil)))))
        (pss_one (ps_ret pe_bl))
        pss_nil)
      (pss_one (ps_ret (pe_and (pe_call G__law_same (hr.mono (by decide)) rfl T.g__law_same T.F__law_same.kp T.b__law_same .nil pass0 (pa_cons (pv 3) (pa_cons (pv 0) pa_nil))) (pe_one (pe_call G__law_same (hr.mono (by decide)) rfl T.g__law_same T.F__law_same.kp T.b__law_same .nil pass0 (pa_cons (pv 4) (pa_cons (pv 1) pa_nil))))))))))))), ?_⟩
    obtain ⟨xs, h1, fx⟩ := ha.ex
    have nf := fun n => sumN_sm n hs1 ha.l
    have ng := fun n => sumN_sm n hs2 hb.l
    have one : Sm 41 (-1) := by unfold Sm; decide
    refine seq_setK ⟨_, rfl, a, xs, rfl, .inl ⟨SqL.of h1, fun u hu => ?_⟩⟩
    refine mk_sumA (K := K) (C := A 11) (ts := ts) (Kp.new hu) (.inr (SqT.of upd_same)) (fx.kp (Kp.new (A := []) hu)) ha.n (by omega) fun x H1 k1 x1 => ?_
    have hb1 := hb.k0 k1
    obtain ⟨ys, g1, gx⟩ := hb1.ex
    refine seq_setK ⟨_, rfl, b, ys, rfl, .inl (SqL.of g1), fun u hu => ?_⟩
    refine mk_sumA (K := K) (C := A 11) (ts := us) (Kp.new hu) (.inl (SqL.of upd_same)) (gx.kp (Kp.new (A := []) hu)) hb.n (by omega) fun y H2 k2 y2 => ?_
    have x2 := x1.k0 k2
    have ha2 := (ha.k0 k1).k0 k2
    have hb2 := hb1.k0 k2
    have kk2 := k1.trans k2
    obtain ⟨dx, tx, o1, _⟩ := x2.ex
    obtain ⟨dy, ty, o2, _⟩ := y2.ex
    clear g1 gx h1 fx hb1 x1 k1 k2 hu
    -- first + second, first - second
    refine seq_ifK0 ?_
    refine ⟨_, rfl, _, rfl, x, dx, _, y, dy, _, rfl, rfl, o1, o2, x, y, _, _, rfl, x2, y2, fun z H3 k3 z3 => ?_⟩
    refine ⟨_, rfl, _, rfl, plCat (ha2.k0 k3) (hb2.k0 k3) (by omega) fun p H4 k4 p4 => ?_⟩
    refine ⟨z, p, _, _, rfl, z3.k0 k4, p4, fun n _ => by rw [sumN, sumN, sumN, wsum_app], fun H5 k5 => ⟨_, rfl, ?_⟩⟩
    refine iteF ?_
    have k25 := k3.trans (k4.trans k5)
    clear z3 p4 k3 k4 k5
    refine ⟨_, rfl, _, rfl, x, dx, _, y, dy, _, rfl, rfl, k25.get o1 (.inl List.not_mem_nil), k25.get o2 (.inl List.not_mem_nil), x, y, _, _, rfl, x2.k0 k25, y2.k0 k25, fun z H6 k6 z6 => ?_⟩
    have k26 := k25.trans k6
    refine ⟨_, rfl, _, rfl, _, rfl, b, us, -1, rfl, hb2.k0 k26, hs2, one, fun p H7 _ k7 p7 => ?_⟩
    refine plCat ((ha2.k0 k26).k0 k7) p7 (by rw [List.length_map]; omega) fun r H8 k8 r8 => ?_
    refine ⟨z, r, _, _, rfl, (z6.k0 k7).k0 k8, r8, fun n _ => ?_, fun H9 k9 => ⟨_, rfl, ?_⟩⟩
    · show sumN ts n - sumN us n = wsum _ _
      rw [wsum_app]
      show _ = sumN ts n + sumN (us.map fun x => (x.1, -1 * x.2)) n
      rw [sumN_scale']; omega
    refine iteF ?_
    have k29 := k26.trans (k7.trans (k8.trans k9))
    clear z6 p7 r8 k6 k7 k8 k9 k25 k26
    -- - first, first - first
    refine seq_ifK0 ?_
    refine ⟨_, rfl, x, dx, _, rfl, k29.get o1 (.inl List.not_mem_nil), x, _, rfl, x2.k0 k29, fun z H10 k10 z10 => ?_⟩
    have k210 := k29.trans k10
    refine ⟨_, rfl, _, rfl, a, ts, -1, rfl, ha2.k0 k210, hs1, one, fun p H11 _ k11 p11 => ?_⟩
    refine ⟨z, p, _, _, rfl, z10.k0 k11, p11, fun n _ => by rw [sumN_scale']; omega, fun H12 k12 => ⟨_, rfl, ?_⟩⟩
    refine iteF ?_
    have k212 := k210.trans (k11.trans k12)
    clear z10 p11 k10 k11 k12 k29 k210
    refine ⟨_, rfl, _, rfl, x, dx, _, x, dx, _, rfl, rfl, k212.get o1 (.inl List.not_mem_nil), k212.get o1 (.inl List.not_mem_nil), x, x, _, _, rfl, x2.k0 k212, x2.k0 k212, fun z H13 k13 z13 => ?_⟩
    refine ⟨sz (by simp), fun p hp => ?_⟩
    have k14 := Kp.new (A := []) (o := .lst []) hp
    refine ⟨z, p, _, [], rfl, z13.k0 k14, pl0, fun n _ => by rw [Int.sub_self]; rfl, fun H15 k15 => ⟨_, rfl, ?_⟩⟩
    refine iteF ?_
    have k215 := k212.trans (k13.trans (k14.trans k15))
    clear z13 k13 k14 k15 k212
    -- first * factor
    refine seq_ifK0 ?_
    refine ⟨_, rfl, _, rfl, rfl, x, dx, _, rfl, k215.get o1 (.inl List.not_mem_nil), x, _, c, rfl, x2.k0 k215, (fun n _ => (nf n).le (by decide)), hc.le (by decide), fun z H16 k16 z16 => ?_⟩
    have k216 := k215.trans k16
    refine ⟨_, rfl, _, rfl, a, ts, c, rfl, ha2.k0 k216, hs1, hc, fun p H17 _ k17 p17 => ?_⟩
    refine ⟨z, p, _, _, rfl, z16.k0 k17, p17, fun n _ => by rw [sumN_scale'], fun H18 k18 => ⟨_, rfl, ?_⟩⟩
    refine iteF ?_
    have k218 := k216.trans (k17.trans k18)
    clear z16 p17 k16 k17 k18 k215 k216
    -- factor * second
    refine seq_ifK0 ?_
    refine ⟨_, rfl, _, rfl, c, y, dy, _, rfl, rfl, k218.get o2 (.inl List.not_mem_nil), y, _, c, rfl, y2.k0 k218, (fun n _ => (ng n).le (by decide)), hc.le (by decide), fun z H16 k16 z16 => ?_⟩
    have k216 := k218.trans k16
    refine ⟨_, rfl, _, rfl, b, us, c, rfl, hb2.k0 k216, hs2, hc, fun p H17 _ k17 p17 => ?_⟩
    refine ⟨z, p, _, _, rfl, z16.k0 k17, p17, fun n _ => by rw [sumN_scale'], fun H18 k18 => ⟨_, rfl, ?_⟩⟩
    refine iteF ?_
    have k220 := k216.trans (k17.trans k18)
    clear z16 p17 k16 k17 k18 k218 k216
    refine retK ?_
    refine ⟨_, rfl, _, rfl, x, a, _, ts, rfl, x2.k0 k220, ha2.k0 k220, (fun _ _ => rfl), fun H19 k19 => ?_⟩
    refine ⟨_, rfl, ?_⟩
    refine iteT ?_
    have k221 := k220.trans k19
    exact ⟨_, rfl, _, rfl, y, b, _, us, rfl, y2.k0 k221, hb2.k0 k221, (fun _ _ => rfl), fun H20 k20 => q _ (kk2.trans (k221.trans k20))⟩
def trD (φ : Str → Int) (ρ : Str → Int × Int) (n : Str) : PyData := .tuple [.str n, .int (φ n), prQ (ρ n)]
theorem tr_fd {H : Hp} {a : Addr} {φ : Str → Int} {ρ : Str → Int × Int} {n : Str} {v : V} (h : SqT K H a [.str n, .int (φ n), v]) (hv : Fd K H 1 v (prQ (ρ n))) : Fd K H 2 (.ref a) (trD φ ρ n) := .tup h (.cons (.str _) (.cons (.int _) (.cons hv .nil)))
def sp__law_values_right (K : PySem.W.Frag) : Sp := fun vs H Q _ => ∃ (s a : Addr) (ts : List (Str × Int)), vs = [.ref s, .ref a] ∧ Src H s ∧ PL K H a ts ∧ a ≠ s ∧ (∀ x ∈ ts, Sm 41 x.2) ∧ ∀ H', Kp [s] H H' → Src H' s → Q (.bl true) H'
theorem ok__law_values_right (T : Txt K mg A D) : FnOk P w K mg base CX0 5 (A 29) (D 29) ["_law_source_here", "_law_pairs_here"] (sp__law_values_right K) := by
  refine T.F__law_values_right.ok sc__law_values_right (fun vs H Q E h => ?_) (fun cdv A' outer s H vs Q E hr h => ?_)
  · obtain ⟨s, a, ts, rfl, hs, hp, ne, hsm, q⟩ := h
    rfl
  · obtain ⟨s, a, ts, rfl, hs, hp, ne, hsm, q⟩ := h
    have hu := hu_of hr
    have G__law_number : FnOk P w K mg base CX0 3 (A 16) (D 16) ["_law_source_here"] (sp__law_number K) := ok__law_number T
    have G__law_ratio : FnOk P w K mg base CX0 4 (A 19) (D 19) ["_law_source_here"] (sp__law_ratio K) := ok__law_ratio T
    have G__law_terms : FnOk P w K mg base CX0 1 (A 25) (D 25) ["_law_pairs_here"] (sp__law_terms K) := ok__law_terms T
    have G_Sum_at : FnOk P w K mg base CX0 1 (A 1230) (D 1230) ["self", "assignment"] (sp_Sum_at K (A 11)) := ok_Sum_at T
    have G_Sum___init__ : FnOk P w K mg base CX0 2 (A 1220) (D 1220) ["self", "terms"] (sp_Sum___init__ K (A 11)) := ok_Sum___init__ T
    have G__law_added : FnOk P w K mg base CX0 3 (A 21) (D 21) ["_law_parts"] (sp__law_added K) := ok__law_added T
    have G__law_is : FnOk P w K mg base CX0 1 (A 20) (D 20) ["_law_actual", "_law_expected"] (sp__law_is K) := ok__law_is T
    have G_ratio_at : FnOk P w K mg base CX0 3 (A 7) (D 7) ["terms", "assignment"] (sp_ratio_at K) := ok_ratio_at T
    refine ⟨_, (pss_cons (ps_set (i := 2) sc__law_values_right.nd rfl (Or.inr rfl) pe_dnewK)
      (pss_cons (ps_set (i := 3) sc__law_values_right.nd rfl (Or.inr rfl) pe_dnewK)
      (pss_cons (ps_for PassesOwn.never rfl (iK_list (K := K) rfl (pe_lst (pa_cons pe_str (pa_cons pe_str (pa_cons pe_str (pa_cons pe_str (pa_cons pe_str (pa_cons pe_str pa_nil)))))))) (pg_name (i := 4) sc__law_values_right.nd rfl (Or.inl rfl))
        (pss_cons (ps_dput hu (pv 2) (pv 4) (pe_call G__law_number (hr.mono (by decide)) rfl T.g__law_number T.F__law_number.kp T.b__law_number .nil pass0 (pa_cons (pv 0) pa_nil)) rfl)
        (pss_one (ps_dput hu (pv 3) (pv 4) (pe_call G__law_ratio (hr.mono (by decide)) rfl T.g__law_ratio T.F__law_ratio.kp T.b__law_ratio .nil pass0 (pa_cons (pv 0) pa_nil)) rfl))))
      (pss_cons (ps_setLc (i := 5) (own := [("_law_name", 4)]) (g := gName 4) (tt := tYes) rfl sc__law_values_right.nd rfl rfl (sw_true rfl rfl rfl (by decide +kernel))  (iK_list (K := K) rfl (pe_callB (id := "sorted") (call_sortedD rfl) (by rfl) T.z_sorted (by decide +kernel) (pa_cons (pv 2) pa_nil))) (blkOk_by (N := N__law_values_right) (sc := defScope (topS 29)) (by decide +kernel)) (fun _ _ _ _ _ => (pg_name (i := 4) sc__law_values_right.nd rfl (Or.inl rfl))) (fun _ _ _ _ _ => pts_nil) (fun _ _ _ _ _ => (pe_tup (pa_cons (pv 4) (pa_cons (pe_dget hu (pv 2) (pv 4) (fun _ _ => rfl)) (pa_cons (pe_dget hu (pv 3) (pv 4) (fun _ _ => rfl)) pa_nil))))))
      (pss_cons (ps_set (i := 6) sc__law_values_right.nd rfl (Or.inl rfl) (pe_call G__law_terms (hr.mono (by decide)) rfl T.g__law_terms T.F__law_terms.kp T.b__law_terms .nil pass0 (pa_cons (pv 1) pa_nil)))
      (pss_cons (ps_if (pt_cmpR op_ne (pe_methO (pe_makeO T.mk_Sum G_Sum___init__ (hr.mono (by decide)) rfl T.g_Sum T.b_Sum___init__ .nil (pas0 pass0) (pa_cons (pv 1) pa_nil)) T.cl_Sum T.M_Sum_at G_Sum_at (hr.mono (by decide)) T.b_Sum_at .nil (pas0 pass0) (pa_cons (pv 2) pa_nil)) (pe_callB (id := "sum") (cr_sum rfl) (by rfl) T.z_sum (by decide +kernel) (pa_cons (pe_lc (own := [("_law_term", 8)]) (g := gName 8) (tt := tYes) rfl sc__law_values_right.nd (iK_tup (K := K) rfl (pv 6)) (blkOk_by (N := N__law_values_right) (sc := defScope (topS 29)) (by decide +kernel)) (fun _ _ _ _ _ => (pg_name (i := 8) sc__law_values_right.nd rfl (Or.inl rfl))) (fun _ _ _ _ _ => pts_nil) (fun _ _ _ _ _ => (pe_op op_mulW (pe_ix (xK_tup (K := K) rfl) (pv 8) pe_int (fun _ _ => rfl)) (pe_dget hu (pv 2) (pe_ix (xK_tup (K := K) rfl) (pv 8) pe_int (fun _ _ => rfl)) (fun _ _ => rfl))))) pa_nil)) (nomark _))
        (pss_one (ps_ret pe_bl))
        pss_nil)
      (pss_cons (ps_set (i := 7) sc__law_values_right.nd rfl (Or.inl rfl) (pe_call G__law_added (hr.mono (by decide)) rfl T.g__law_added T.F__law_added.kp T.b__law_added .nil pass0 (pa_cons (pe_lc (own := [("_law_term", 8)]) (g := gName 8) (tt := tYes) rfl sc__law_values_right.nd (iK_tup (K := K) rfl (pv 6)) (blkOk_by (N := N__law_values_right) (sc := defScope (topS 29)) (by decide +kernel)) (fun _ _ _ _ _ => (pg_name (i := 8) sc__law_values_right.nd rfl (Or.inl rfl))) (fun _ _ _ _ _ => pts_nil) (fun _ _ _ _ _ => (pe_tup (pa_cons (pe_op op_mulW (pe_ix (xK_tup (K := K) rfl) (pv 8) pe_int (fun _ _ => rfl)) (pe_ix (xK_tup (K := K) rfl) (pe_dget hu (pv 3) (pe_ix (xK_tup (K := K) rfl) (pv 8) pe_int (fun _ _ => rfl)) (fun _ _ => rfl)) pe_int (fun _ _ => rfl))) (pa_cons (pe_ix (xK_tup (K := K) rfl) (pe_dget hu (pv 3) (pe_ix (xK_tup (K := K) rfl) (pv 8) pe_int (fun _ _ => rfl)) (fun _ _ => rfl)) pe_int (fun _ _ => rfl)) pa_nil))))) pa_nil)))
      (pss_cons (ps_if (pt_not (pt_val (pe_call G__law_is (hr.mono (by decide)) rfl T.g__law_is T.F__law_is.kp T.b__law_is .nil pass0 (pa_cons (pe_call G_ratio_at (hr.mono (by decide)) rfl T.g_ratio_at T.F_ratio_at.kp T.b_ratio_at .nil pass0 (pa_cons (pv 6) (pa_cons (pv 3) pa_nil))) (pa_cons (pv 7) pa_nil)))))
        (pss_one (ps_ret pe_bl))
        pss_nil)
      (pss_one (ps_ret (pe_cmpR (oP_eq (K := K) rfl hr.units) (pe_lc (own := [("_law_name", 4)]) (g := gName 4) (tt := tYes) rfl sc__law_values_right.nd (iK_list (K := K) rfl (pe_callB (id := "sorted") (call_sortedD rfl) (by rfl) T.z_sorted (by decide +kernel) (pa_cons (pv 2) pa_nil))) (blkOk_by (N := N__law_values_right) (sc := defScope (topS 29)) (by decide +kernel)) (fun _ _ _ _ _ => (pg_name (i := 4) sc__law_values_right.nd rfl (Or.inl rfl))) (fun _ _ _ _ _ => pts_nil) (fun _ _ _ _ _ => (pe_tup (pa_cons (pv 4) (pa_cons (pe_dget hu (pv 2) (pv 4) (fun _ _ => rfl)) (pa_cons (pe_dget hu (pv 3) (pv 4) (fun _ _ => rfl)) pa_nil)))))) (pv 5) (nomark _)))))))))))), ?_⟩
    obtain ⟨xs, ha, fa⟩ := hp.ex
    have l20 := hp.l
    have an : a ∉ [s] := by simpa using ne
    refine seq_setK ?_
    intro d1 hd1
    try dsimp only
    have kd1 : Kp [] H (upd H d1 (.dK [])) := Kp.new hd1
    have ds1 := ne_src hs hd1
    have ds1' : d1 ∉ [s] := by simpa using ds1
    have s1 := hs.kp kd1 List.not_mem_nil
    refine seq_setK ?_
    intro d2 hd2
    try dsimp only
    have kd2 : Kp [] (upd H d1 (.dK [])) (upd (upd H d1 (.dK [])) d2 (.dK [])) := Kp.new hd2
    have ds2 := ne_src s1 hd2
    have ds2' : d2 ∉ [s] := by simpa using ds2
    have d12 : d1 ≠ d2 := fun e => by rw [← e, upd_same] at hd2; cases hd2
    have hd2' : H d2 = none := by rw [upd_ne (Ne.symm d12)] at hd2; exact hd2
    have s2 := s1.kp kd2 List.not_mem_nil
    have f1 : (upd (upd H d1 (.dK [])) d2 (.dK [])) d1 = some (.dK []) := kd2.get (a := d1) upd_same (.inl List.not_mem_nil)
    have f2 : (upd (upd H d1 (.dK [])) d2 (.dK [])) d2 = some (.dK []) := upd_same
    have k02 : Kp [] H (upd (upd H d1 (.dK [])) d2 (.dK [])) := kd1.trans kd2
    generalize upd (upd H d1 (.dK [])) d2 (.dK []) = H2 at kd2 s2 f1 f2 k02
    clear kd1 kd2 s1 hd2
    refine seq_forK ?_
    refine ⟨sz (by simp), fun p0 hp0 => ?_⟩
    have kp0 := Kp.new (A := []) (o := .lst (pool6.map V.str)) hp0
    have ps := ne_src s2 hp0
    have ps' : p0 ∉ [s] := by simpa using ps
    have pd1 : p0 ≠ d1 := fun e => by rw [e, f1] at hp0; cases hp0
    have pd2 : p0 ≠ d2 := fun e => by rw [e, f2] at hp0; cases hp0
    refine ⟨p0, rfl, ⟨_, SqL.of upd_same⟩, ?_⟩
    have h0 : (upd H2 p0 (.lst (pool6.map V.str))) p0 = some (.lst (pool6.map V.str)) := upd_same
    refine for_seq (walk_list (xs := pool6.map V.str)) (fun i σ H' => (∃ v4 v5 v6 v7 v8 : Option V, σ = [some (.ref s), some (.ref a), some (.ref d1), some (.ref d2), v4, v5, v6, v7, v8]) ∧ H' p0 = some (.lst (pool6.map V.str)) ∧ Kp [s] H H' ∧ Src H' s ∧ ∃ (φ : Str → Int) (g : Str → V) (ρ : Str → Int × Int), H' d1 = some (.dK (kvN (pool6.take i) fun n => V.int (φ n))) ∧ H' d2 = some (.dK (kvN (pool6.take i) g)) ∧ (∀ n, Sm 41 (φ n)) ∧ (∀ n, DQ (ρ n)) ∧ ∀ n ∈ pool6.take i, Fd K H' 1 (g n) (prQ (ρ n)))
      ⟨⟨_, _, _, _, _, rfl⟩, h0, k02.nil.trans kp0.nil, s2.kp kp0 List.not_mem_nil, fun _ => 0, fun _ => .non, fun _ => (0, 1), kp0.get f1 (.inl List.not_mem_nil), kp0.get f2 (.inl List.not_mem_nil), (fun _ => (show Sm 41 0 by unfold Sm; decide)), (fun _ => ⟨(show Sm 42 0 by unfold Sm; decide), (show Sm 42 1 by unfold Sm; decide), (show (0 : Int) < 1 by decide)⟩), (fun _ h => nomatch h)⟩ (fun i σ H' _ z => SqL.of z.2.1) ?_ ?_
    · rintro i w σ H3 H4 hi ⟨⟨v4, v5, v6, v7, v8, rfl⟩, e0, k3, s3, φ, g, ρ, e1, e2, hφ, hρ, hg⟩ ⟨rfl, hw⟩
      rw [List.getElem?_map] at hw
      obtain ⟨n, hn, rfl⟩ := Option.map_eq_some_iff.mp hw
      obtain ⟨nin, etk⟩ := nd_take pool6_nd hn
      have tl : (pool6.take i).length ≤ 6 := by rw [List.length_take]; exact Nat.min_le_right _ _
      have kl : ∀ f : Str → V, (kvN (pool6.take i) f).length ≤ 6 := fun f => by unfold kvN; rw [List.length_map]; exact tl
      refine gnK ?_
      refine ⟨_, rfl, s, rfl, s3, fun x H5 hx k5 s5 => ?_⟩
      refine ⟨_, rfl, _, rfl, d1, _, rfl, DPut.k (k := Sum.inr n) (k5.get e1 (.inl ds1')) (szl (by have := kl fun n => V.int (φ n); omega)), ?_⟩
      have ko1 := Kp.own (A := [d1]) (o' := .dK (putK (kvN (pool6.take i) fun n => V.int (φ n)) (.inr n) (.int x))) (k5.get e1 (.inl ds1')) rfl (by simp)
      have e11 : (upd H5 d1 (.dK (putK (kvN (pool6.take i) fun n => V.int (φ n)) (.inr n) (.int x)))) d1 = some (.dK (putK (kvN (pool6.take i) fun n => V.int (φ n)) (.inr n) (.int x))) := upd_same
      have e21 := ko1.get (k5.get e2 (.inl ds2')) (.inl (by simpa using Ne.symm d12))
      have e01 := ko1.get (k5.get e0 (.inl ps')) (.inl (by simpa using pd1))
      have s51 := s5.kp ko1 (by simpa using Ne.symm ds1)
      have kk1 := (k3.trans k5).put (o := .dK (putK (kvN (pool6.take i) fun n => V.int (φ n)) (.inr n) (.int x))) hd1
      have fg1 := fun n hn => ((hg n hn).kp k5).kp ko1
      generalize upd H5 d1 (.dK (putK (kvN (pool6.take i) fun n => V.int (φ n)) (.inr n) (.int x))) = H6 at ko1 e11 e21 e01 s51 kk1 fg1
      dsimp only
      refine ⟨_, rfl, s, rfl, s51, fun r y H7 k7 s7 dq hr => ?_⟩
      refine ⟨_, rfl, _, rfl, d2, _, rfl, DPut.k (k := Sum.inr n) (k7.get e21 (.inl ds2')) (szl (by have := kl g; omega)), ?_⟩
      have ko2 := Kp.own (A := [d2]) (o' := .dK (putK (kvN (pool6.take i) g) (.inr n) (.ref r))) (k7.get e21 (.inl ds2')) rfl (by simp)
      refine ⟨⟨_, _, _, _, _, rfl⟩, ko2.get (k7.get e01 (.inl ps')) (.inl (by simpa using pd2)), (kk1.trans k7).put hd2', s7.kp ko2 (by simpa using Ne.symm ds2), fun m => if m = n then x else φ m, fun m => if m = n then .ref r else g m, fun m => if m = n then y else ρ m, ?_, ?_, fun m => ?_, fun m => ?_, fun m hm => ?_⟩
      · rw [ko2.get (k7.get e11 (.inl ds1')) (.inl (by simpa using d12)), put_kvN nin, etk]
        refine congrArg (fun z => some (HO.dK (kvN (pool6.take i ++ [n]) z))) (funext fun m => ?_)
        dsimp only
        split <;> rfl
      · rw [upd_same, put_kvN nin, etk]
      · dsimp only
        split
        · exact hx
        · exact hφ m
      · dsimp only
        split
        · exact dq
        · exact hρ m
      · dsimp only
        split
        · exact prQ_fd (ko2.sqT hr)
        · rename_i c
          rw [etk, List.mem_append] at hm
          exact ((fg1 m (hm.resolve_right fun q => c (List.mem_singleton.mp q))).kp k7).kp ko2
    rintro σ H3 ⟨⟨v4, v5, v6, v7, v8, rfl⟩, e0, k3, s3, φ, g, ρ, e1, e2, hφ, hρ, hg⟩
    rw [List.length_map, List.take_length] at e1 e2 hg
    clear h0 hp0 e0 kp0
    have ha3 := k3.get ha (.inl an)
    have fa3 := fa.kp k3
    have hp3 := hp.kp k3 an
    -- before
    refine seq_setK ?_
    refine ⟨_, rfl, d1, _, pool6, rfl, .inl e1, by unfold kvN; rw [List.map_map]; rfl, by decide, fun ys t perm srt ht => ?_⟩
    have ey : ys = pool6 := Asc.ext (asc_of_sorted srt (perm.nodup_iff.mpr pool6_nd)) pool6_asc fun x => perm.mem_iff
    subst ey
    have kt := Kp.new (A := []) (o := .lst (pool6.map V.str)) ht
    have t2 : (upd H3 t (.lst (pool6.map V.str))) t = some (.lst (pool6.map V.str)) := upd_same
    have f1 := kt.get e1 (.inl List.not_mem_nil)
    have f2 := kt.get e2 (.inl List.not_mem_nil)
    generalize upd H3 t (.lst (pool6.map V.str)) = H4 at kt t2 f1 f2
    refine ⟨t, rfl, ⟨_, SqL.of t2⟩, fun D1 hD => lc_it walk_list (fun j H' => PvF [] K 2 H4 D1 ((pool6.take j).map (trD φ ρ)) H') (pvF_0 hD) (fun j H' _ z => z.kp.sqL List.not_mem_nil (SqL.of t2)) ?_ ?_⟩
    · rintro j x H3 H4 hj pv ⟨rfl, hx⟩
      rw [List.getElem?_map] at hx
      obtain ⟨n, hn, rfl⟩ := Option.map_eq_some_iff.mp hx
      have nm := List.mem_of_getElem? hn
      have g1 : DGet H4 d1 (.str n) (some (.int (φ n))) := (show valV (kvN pool6 fun n => V.int (φ n)) (.inr n) = some (.int (φ n)) by rw [val_kvN, if_pos nm]) ▸ DGet.k (k := Sum.inr n) (pv.kp.get f1 (.inl List.not_mem_nil))
      have g2 : DGet H4 d2 (.str n) (some (g n)) := (show valV (kvN pool6 g) (.inr n) = some (g n) by rw [val_kvN, if_pos nm]) ▸ DGet.k (k := Sum.inr n) (pv.kp.get f2 (.inl List.not_mem_nil))
      refine gnK ⟨rfl, ?_⟩
      refine yesK ?_
      refine iteT ?_
      refine ⟨_, rfl, _, rfl, _, rfl, d1, _, rfl, g1, _, rfl, _, rfl, d2, _, rfl, g2, sz (by simp), fun u hu => ?_⟩
      have ku := Kp.new (A := []) (o := .tup [.str n, .int (φ n), g n]) hu
      obtain ⟨acc, c1, c2, c3⟩ := pv.step ku List.not_mem_nil hD (by have : pool6.length = 6 := rfl; rw [List.length_map, List.length_take]; omega) (tr_fd (φ := φ) (ρ := ρ) (SqT.of upd_same) ((((hg n nm).kp kt).kp pv.kp).kp ku))
      refine ⟨acc, c1, c2, c3.to ?_⟩
      rw [tk_map hn]
    rintro H5 pv5
    obtain ⟨acc5, b1, b2⟩ := pv5.ex
    rw [List.length_map, List.take_length] at b2
    have k35 : Kp [] H3 H5 := kt.trans pv5.kp
    have e15 := k35.get e1 (.inl List.not_mem_nil)
    have e25 := k35.get e2 (.inl List.not_mem_nil)
    have hg5 := fun n hn => (hg n hn).kp k35
    have hp5 := hp3.k0 k35
    have ha5 := k35.get ha3 (.inl List.not_mem_nil)
    have fa5 := fa3.kp k35
    clear pv5 kt t2 f1 f2
    -- terms
    walk_at "st"
    refine ⟨_, rfl, a, ts, rfl, hp5, fun p H6 k6 f6 => ?_⟩
    obtain ⟨p', zs, ep, sp6, fp6⟩ := f6.tup_inv
    cases ep
    have lz : zs.length = (trm (sumN ts)).length := by rw [fp6.length, List.length_map]
    have l5 := trm_len (sumN ts)
    have nf := fun n => sumN_sm n hsm l20
    have tin := trm_inP (sumN ts)
    have tsm : ∀ q ∈ trm (sumN ts), Sm 46 q.2 := fun q hq => by rw [trm_f hq]; exact nf _
    have v1 : ∀ {H' : Hp}, Kp [] H6 H' → ∀ n ∈ poolS, DGet H' d1 (.str n) (some (.int (φ n))) := fun k n hn => (show valV (kvN pool6 fun n => V.int (φ n)) (.inr n) = some (.int (φ n)) by rw [val_kvN, if_pos (pool6_sub hn)]) ▸ DGet.k (k := Sum.inr n) (k.get (k6.get e15 (.inl List.not_mem_nil)) (.inl List.not_mem_nil))
    have v2 : ∀ {H' : Hp}, Kp [] H6 H' → ∀ n ∈ poolS, DGet H' d2 (.str n) (some (g n)) := fun k n hn => (show valV (kvN pool6 g) (.inr n) = some (g n) by rw [val_kvN, if_pos (pool6_sub hn)]) ▸ DGet.k (k := Sum.inr n) (k.get (k6.get e25 (.inl List.not_mem_nil)) (.inl List.not_mem_nil))
    -- Sum(..).at(..)
    refine seq_ifK0 ⟨_, rfl, ?_⟩
    refine mk_sumA (K := K) (C := A 11) (ts := ts) Kp.refl (.inl (SqL.of (k6.get ha5 (.inl List.not_mem_nil)))) (fa5.kp k6) hp.n (by omega) fun x H7 k7 x7 => ?_
    obtain ⟨dx, tx, o1, _⟩ := x7.ex
    refine ⟨x, dx, _, rfl, o1, lk_ne (by decide +kernel), _, rfl, x, d1, _, φ, rfl, x7, ⟨_, (k6.trans k7).get e15 (.inl List.not_mem_nil), fun n hn => by rw [val_kvN, if_pos (pool6_sub hn)]⟩, fun n _ => ⟨(nf n).le (by decide), (hφ n).le (by decide)⟩, fun H8 k8 => ?_⟩
    have k68 := k7.trans k8
    have sp8 := k68.sqT sp6
    have fp8 := fp6.kp k68
    refine ⟨_, rfl, p, rfl, ⟨_, sp8⟩, fun D2 hD2 => lc_it walk_tup (fun i H' => H' D2 = some (.lst ((((trm (sumN ts)).take i).map fun q => q.2 * φ q.1).map V.int)) ∧ Kp [] H8 H') ⟨upd_same, Kp.new hD2⟩ (fun i H' _ z => z.2.sqT sp8) ?_ ?_⟩
    · rintro i w H9 H10 hi ⟨e9, k9⟩ ⟨rfl, hw⟩
      obtain ⟨q, hq, fq⟩ := fp8.atm hw
      obtain ⟨b, rfl, sb⟩ := prD_inv (fq.kp k9)
      have qm := List.mem_of_getElem? hq
      refine gnK ⟨rfl, ?_⟩
      refine yesK ?_
      refine iteT ?_
      refine ⟨_, rfl, b, _, 1, _, rfl, rfl, sb, rfl, _, rfl, _, rfl, b, _, 0, _, rfl, rfl, sb, rfl, d1, _, rfl, v1 (k68.trans k9) _ (tin q qm), _, _, rfl, rfl, (tsm q qm).cmul (hφ q.1) (by decide) (by decide) (by decide), _, e9, szl (by have := tk_len (g := fun q : Str × Int => q.2 * φ q.1) (xs := trm (sumN ts)) i; rw [List.length_map]; omega), ?_, k9.put hD2⟩
      rw [tk_map hq, List.map_append]; exact upd_same
    rintro H9 ⟨e9, k9⟩
    rw [lz, List.take_length] at e9
    refine ⟨D2, _, rfl, SqL.of e9, rfl, _, rfl, ?_⟩
    refine ite2 (fun c => absurd c (by simp [wsum])) (fun _ => ?_)
    have k69 := k68.trans k9
    clear e9 hD2 k8 k9 k68 sp8 fp8 x7 o1
    -- the expected ratio
    have sp9 := k69.sqT sp6
    have fp9 := fp6.kp k69
    refine seq_setK ?_
    refine ⟨_, rfl, p, rfl, ⟨_, sp9⟩, fun D2 hD2 => lc_it walk_tup (fun i H' => PvF [] K 1 H9 D2 ((((trm (sumN ts)).take i).map fun q => (q.2 * (ρ q.1).1, (ρ q.1).2)).map prQ) H') (pvF_0 hD2) (fun i H' _ z => z.kp.sqT sp9) ?_ ?_⟩
    · rintro i w H10 H11 hi pv ⟨rfl, hw⟩
      obtain ⟨q, hq, fq⟩ := fp9.atm hw
      obtain ⟨b, rfl, sb⟩ := prD_inv (fq.kp pv.kp)
      have qm := List.mem_of_getElem? hq
      have qn := tin q qm
      have gq := (((hg5 q.1 (pool6_sub qn)).kp k6).kp k69).kp pv.kp
      obtain ⟨gr, egr, sgr⟩ := prQ_inv gq
      have gt := v2 (k69.trans pv.kp) q.1 qn
      rw [egr] at gt
      refine gnK ⟨rfl, ?_⟩
      refine yesK ?_
      refine iteT ?_
      refine ⟨_, rfl, b, _, 1, _, rfl, rfl, sb, rfl, _, rfl, _, rfl, b, _, 0, _, rfl, rfl, sb, rfl, d2, _, rfl, gt, gr, _, 0, _, rfl, rfl, sgr, rfl, _, _, rfl, rfl, (tsm q qm).cmul (hρ q.1).1 (by decide) (by decide) (by decide), _, rfl, _, rfl, b, _, 0, _, rfl, rfl, sb, rfl, d2, _, rfl, gt, gr, _, 1, _, rfl, rfl, sgr, rfl, sz (by simp), fun u hu => ?_⟩
      obtain ⟨acc, c1, c2, c3⟩ := pv.step (Kp.new (A := []) (o := .tup [.int (q.2 * (ρ q.1).1), .int (ρ q.1).2]) hu) List.not_mem_nil hD2 (by rw [List.length_map, List.length_map, List.length_take]; omega) (prQ_fd (n := 0) (q := (q.2 * (ρ q.1).1, (ρ q.1).2)) (SqT.of upd_same))
      refine ⟨acc, c1, c2, c3.to ?_⟩
      rw [tk_map hq, List.map_append]; rfl
    rintro H10 pv
    obtain ⟨acc, c1, c2⟩ := pv.ex
    rw [lz, List.take_length] at c2
    refine ⟨D2, acc, _, rfl, SqL.of c1, c2, by rw [List.length_map]; omega, fun q hq => ?_, fun r H11 k11 h11 => ?_⟩
    · obtain ⟨m, hm, rfl⟩ := List.mem_map.mp hq
      exact ⟨((tsm m hm).mul (hρ m.1).1).le (by decide), (hρ m.1).2.1, (hρ m.1).2.2⟩
    have k611 := k69.trans (pv.kp.trans k11)
    clear c1 c2 pv hD2 k69 sp9 fp9
    -- ratio_at
    refine seq_ifK0 ?_
    refine ⟨_, rfl, _, rfl, .ref p, d2, trm (sumN ts), ρ, rfl, .tup (k611.sqT sp6) (fp6.kp k611), by omega, ⟨_, k611.get (k6.get e25 (.inl List.not_mem_nil)) (.inl List.not_mem_nil), fun n hn => ?_⟩, fun q hq => ⟨(tsm q hq).le (by decide), (hρ q.1).1.le (by decide), (hρ q.1).2.1.le (by decide), (hρ q.1).2.2⟩, fun r2 H12 k12 h12 => ?_⟩
    · obtain ⟨q, hq, rfl⟩ := List.mem_map.mp hn
      have qn := pool6_sub (tin q hq)
      exact ⟨g q.1, by rw [val_kvN, if_pos qn], ((hg5 q.1 qn).kp k6).kp k611⟩
    have elow : lowP (tot ((trm (sumN ts)).map fun q => lowT q ρ)).1 (tot ((trm (sumN ts)).map fun q => lowT q ρ)).2 = lowP (tot ((trm (sumN ts)).map fun q => (q.2 * (ρ q.1).1, (ρ q.1).2))).1 (tot ((trm (sumN ts)).map fun q => (q.2 * (ρ q.1).1, (ρ q.1).2))).2 := by
      refine lowtot_congr _ (fun q _ => ?_) (fun q _ => ?_) fun q _ => (hρ q.1).2.2
      · have := low_eqQ (t := q.2 * (ρ q.1).1) (b := 1 * (ρ q.1).2) (by rw [Int.one_mul]; exact (hρ q.1).2.2)
        rw [Int.one_mul] at this
        unfold lowT
        rw [Int.one_mul]; exact this
      · exact lowP_pos (by rw [Int.one_mul]; exact (hρ q.1).2.2)
    rw [elow] at h12
    refine ⟨_, rfl, r2, r, _, rfl, h12, k12.sqT h11, fun H13 k13 => ⟨_, rfl, ?_⟩⟩
    refine iteF ?_
    have k613 := k611.trans (k12.trans k13)
    have k513 := k6.trans k613
    have e113 := k513.get e15 (.inl List.not_mem_nil)
    have e213 := k513.get e25 (.inl List.not_mem_nil)
    have hg13 := fun n hn => (hg5 n hn).kp k513
    have b113 := k513.get b1 (.inl List.not_mem_nil)
    have b213 := b2.kp k513
    clear h11 h12 k11 k12 k13 k611 k613
    refine retK ?_
    refine ⟨_, rfl, d1, _, pool6, rfl, .inl e113, by unfold kvN; rw [List.map_map]; rfl, by decide, fun ys t perm srt ht => ?_⟩
    have ey : ys = pool6 := Asc.ext (asc_of_sorted srt (perm.nodup_iff.mpr pool6_nd)) pool6_asc fun x => perm.mem_iff
    subst ey
    have kt := Kp.new (A := []) (o := .lst (pool6.map V.str)) ht
    have t2 : (upd H13 t (.lst (pool6.map V.str))) t = some (.lst (pool6.map V.str)) := upd_same
    have f1 := kt.get e113 (.inl List.not_mem_nil)
    have f2 := kt.get e213 (.inl List.not_mem_nil)
    generalize upd H13 t (.lst (pool6.map V.str)) = H14 at kt t2 f1 f2
    refine ⟨t, rfl, ⟨_, SqL.of t2⟩, fun D3 hD => lc_it walk_list (fun j H' => PvF [] K 2 H14 D3 ((pool6.take j).map (trD φ ρ)) H') (pvF_0 hD) (fun j H' _ z => z.kp.sqL List.not_mem_nil (SqL.of t2)) ?_ ?_⟩
    · rintro j x H3 H4 hj pv ⟨rfl, hx⟩
      rw [List.getElem?_map] at hx
      obtain ⟨n, hn, rfl⟩ := Option.map_eq_some_iff.mp hx
      have nm := List.mem_of_getElem? hn
      have g1 : DGet H4 d1 (.str n) (some (.int (φ n))) := (show valV (kvN pool6 fun n => V.int (φ n)) (.inr n) = some (.int (φ n)) by rw [val_kvN, if_pos nm]) ▸ DGet.k (k := Sum.inr n) (pv.kp.get f1 (.inl List.not_mem_nil))
      have g2 : DGet H4 d2 (.str n) (some (g n)) := (show valV (kvN pool6 g) (.inr n) = some (g n) by rw [val_kvN, if_pos nm]) ▸ DGet.k (k := Sum.inr n) (pv.kp.get f2 (.inl List.not_mem_nil))
      refine gnK ⟨rfl, ?_⟩
      refine yesK ?_
      refine iteT ?_
      refine ⟨_, rfl, _, rfl, _, rfl, d1, _, rfl, g1, _, rfl, _, rfl, d2, _, rfl, g2, sz (by simp), fun u hu => ?_⟩
      have ku := Kp.new (A := []) (o := .tup [.str n, .int (φ n), g n]) hu
      obtain ⟨acc, c1, c2, c3⟩ := pv.step ku List.not_mem_nil hD (by have : pool6.length = 6 := rfl; rw [List.length_map, List.length_take]; omega) (tr_fd (φ := φ) (ρ := ρ) (SqT.of upd_same) ((((hg13 n nm).kp kt).kp pv.kp).kp ku))
      refine ⟨acc, c1, c2, c3.to ?_⟩
      rw [tk_map hn]
    rintro H15 pv15
    obtain ⟨acc15, q1, q2⟩ := pv15.ex
    rw [List.length_map, List.take_length] at q2
    have k1315 := kt.trans pv15.kp
    have b115 := k1315.get b113 (.inl List.not_mem_nil)
    have b215 := b213.kp k1315
    refine ⟨_, rfl, _, _, lst_dp (SqL.of q1) q2, lst_dp (SqL.of b115) b215, lst_pln q2 (by decide), lst_pln b215 (by decide), ?_⟩
    rw [eqv_same (lst_pln q2 (by decide)).1]
    have k315 := k35.trans (k513.trans k1315)
    exact q _ (k3.trans k315.nil) (s3.kp k315 List.not_mem_nil)
theorem sumN_mv (r : Str → Str) (ts : List (Str × Int)) (n : Str) : sumN (mvT r ts) n = wsum ts fun m => ind n (r m) := by
  unfold sumN wsum mvT
  rw [List.map_map]; rfl
def sp__law_names_right (K : PySem.W.Frag) : Sp := fun vs H Q _ => ∃ (s a : Addr) (ts : List (Str × Int)), vs = [.ref s, .ref a] ∧ Src H s ∧ PL K H a ts ∧ a ≠ s ∧ ∀ H', Kp [s] H H' → Src H' s → Q (.bl true) H'
theorem ok__law_names_right (T : Txt K mg A D) : FnOk P w K mg base CX0 5 (A 30) (D 30) ["_law_source_here", "_law_pairs_here"] (sp__law_names_right K) := by
  refine T.F__law_names_right.ok sc__law_names_right (fun vs H Q E h => ?_) (fun cdv A' outer s H vs Q E hr h => ?_)
  · obtain ⟨s, a, ts, rfl, hs, hp, ne, q⟩ := h
    rfl
  · obtain ⟨s, a, ts, rfl, hs, hp, ne, q⟩ := h
    have hu := hu_of hr
    have G__law_draw : FnOk P w K mg base CX0 1 (A 14) (D 14) ["_law_source_here", "_law_limit"] (sp__law_draw K) := ok__law_draw T
    have G_Sum___init__ : FnOk P w K mg base CX0 2 (A 1220) (D 1220) ["self", "terms"] (sp_Sum___init__ K (A 11)) := ok_Sum___init__ T
    have G__law_same : FnOk P w K mg base CX0 3 (A 26) (D 26) ["_law_actual", "_law_pairs_here"] (sp__law_same K (A 11)) := ok__law_same T
    have G_Sum_renamed : FnOk P w K mg base CX0 4 (A 1231) (D 1231) ["self", "table"] (sp_Sum_renamed K (A 11)) := ok_Sum_renamed T
    refine ⟨_, (pss_cons (ps_set (i := 2) sc__law_names_right.nd rfl (Or.inl rfl) pe_dnewK)
      (pss_cons (ps_for PassesOwn.never rfl (iK_list (K := K) rfl (pe_lst (pa_cons pe_str (pa_cons pe_str (pa_cons pe_str (pa_cons pe_str (pa_cons pe_str pa_nil))))))) (pg_name (i := 3) sc__law_names_right.nd rfl (Or.inl rfl))
        (pss_one (ps_if (pt_cmpR op_eq (pe_call G__law_draw (hr.mono (by decide)) rfl T.g__law_draw T.F__law_draw.kp T.b__law_draw .nil pass0 (pa_cons (pv 0) (pa_cons pe_int pa_nil))) pe_int (nomark _))
          (pss_one (ps_dput hu (pv 2) (pv 3) (pe_ix (xK_list (K := K) rfl) (pe_lst (pa_cons pe_str (pa_cons pe_str (pa_cons pe_str (pa_cons pe_str pa_nil))))) (pe_call G__law_draw (hr.mono (by decide)) rfl T.g__law_draw T.F__law_draw.kp T.b__law_draw .nil pass0 (pa_cons (pv 0) (pa_cons pe_int pa_nil))) (fun _ _ => rfl)) rfl))
          pss_nil)))
      (pss_cons (ps_set (i := 4) sc__law_names_right.nd rfl (Or.inl rfl) (pe_lst pa_nil))
      (pss_cons (ps_for PassesOwn.never rfl (iK_list (K := K) rfl (pv 1)) (gK_tup (K := K) 2 rfl rfl (pgs_cons (pg_name (i := 3) sc__law_names_right.nd rfl (Or.inl rfl)) (pgs_cons (pg_name (i := 5) sc__law_names_right.nd rfl (Or.inl rfl)) pgs_nil)))
        (pss_one (ps_if (pt_cmp (pc_din hu (pv 3) (pv 2)))
          (pss_one (ps_expr (pe_bm PySem.F.plainAttrs_list PySem.F.slot_list_append PySem.F.type_list_append mt_append (pv 4) (pa_cons (pe_tup (pa_cons (pe_dget hu (pv 2) (pv 3) (fun _ _ => rfl)) (pa_cons (pv 5) pa_nil))) pa_nil))))
          (pss_one (ps_expr (pe_bm PySem.F.plainAttrs_list PySem.F.slot_list_append PySem.F.type_list_append mt_append (pv 4) (pa_cons (pe_tup (pa_cons (pv 3) (pa_cons (pv 5) pa_nil))) pa_nil)))))))
      (pss_cons (ps_set (i := 6) sc__law_names_right.nd rfl (Or.inl rfl) (pe_makeO T.mk_Sum G_Sum___init__ (hr.mono (by decide)) rfl T.g_Sum T.b_Sum___init__ .nil (pas0 pass0) (pa_cons (pv 1) pa_nil)))
      (pss_one (ps_ret (pe_and (pe_call G__law_same (hr.mono (by decide)) rfl T.g__law_same T.F__law_same.kp T.b__law_same .nil pass0 (pa_cons (pe_methO (pv 6) T.cl_Sum T.M_Sum_renamed G_Sum_renamed (hr.mono (by decide)) T.b_Sum_renamed .nil (pas0 pass0) (pa_cons (pv 2) pa_nil)) (pa_cons (pv 4) pa_nil))) (pe_and (pe_call G__law_same (hr.mono (by decide)) rfl T.g__law_same T.F__law_same.kp T.b__law_same .nil pass0 (pa_cons (pv 6) (pa_cons (pv 1) pa_nil))) (pe_one (pe_call G__law_same (hr.mono (by decide)) rfl T.g__law_same T.F__law_same.kp T.b__law_same .nil pass0 (pa_cons (pe_makeO0 T.mk_Sum G_Sum___init__ (hr.mono (by decide)) rfl T.g_Sum T.b1_Sum___init__.choose_spec.2 T.b1_Sum___init__.choose_spec.1 (pas0 pass0)) (pa_cons (pe_lst pa_nil) pa_nil))))))))))))), ?_⟩
    obtain ⟨xs, ha, fa⟩ := hp.ex
    have lx : xs.length = ts.length := by rw [fa.length, List.length_map]
    have l20 := hp.l
    have an : a ∉ [s] := by simpa using ne
    walk_at "st"
    intro d hd0
    try dsimp only
    have kd : Kp [] H (upd H d (.dK [])) := Kp.new hd0
    have ds := ne_src hs hd0
    have ds' : d ∉ [s] := by simpa using ds
    refine seq_forK ?_
    refine ⟨sz (by simp), fun p0 hp0 => ?_⟩
    have kp0 := Kp.new (A := []) (o := .lst (poolS.map V.str)) hp0
    have s1 := (hs.kp kd List.not_mem_nil)
    have ps := ne_src s1 hp0
    have ps' : p0 ∉ [s] := by simpa using ps
    have pd : p0 ≠ d := fun e => by rw [e, upd_same] at hp0; cases hp0
    refine ⟨p0, rfl, ⟨_, SqL.of upd_same⟩, ?_⟩
    have h0 : (upd (upd H d (.dK [])) p0 (.lst (poolS.map V.str))) p0 = some (.lst (poolS.map V.str)) := upd_same
    refine for_seq (walk_list (xs := poolS.map V.str)) (fun i σ H' => (∃ v3 v4 v5 v6 : Option V, σ = [some (.ref s), some (.ref a), some (.ref d), v3, v4, v5, v6]) ∧ H' p0 = some (.lst (poolS.map V.str)) ∧ Kp [s] H H' ∧ Src H' s ∧ ∃ (kvs : List (Key × V)) (r : Str → Str), H' d = some (.dK kvs) ∧ kvs.length ≤ i ∧ (∀ n, (valV kvs (.inr n) = none ∧ r n = n) ∨ valV kvs (.inr n) = some (.str (r n))) ∧ ∀ n ∈ poolS, r n ∈ poolS)
      ⟨⟨_, _, _, _, rfl⟩, h0, kd.nil.trans kp0.nil, s1.kp kp0 List.not_mem_nil, [], id, kp0.get (a := d) upd_same (.inl List.not_mem_nil), Nat.le_refl _, fun n => .inl ⟨rfl, rfl⟩, fun n h => h⟩ (fun i σ H' _ z => SqL.of z.2.1) ?_ ?_
    · rintro i w σ H2 H3 hi ⟨⟨v3, v4, v5, v6, rfl⟩, e0, k2, s2, kvs, r, e1, hl, hr1, hr2⟩ ⟨rfl, hw⟩
      rw [List.getElem?_map] at hw
      obtain ⟨n, hn', rfl⟩ := Option.map_eq_some_iff.mp hw
      have hi' : i < 5 := hi
      refine gnK ?_
      refine if_anK ?_
      refine ⟨_, rfl, s, 2, rfl, s2, by decide, by decide, fun c H4 c0 c1 k4 s4 => ⟨rfl, _, rfl, ?_⟩⟩
      have e04 := k4.get e0 (.inl ps')
      have e14 := k4.get e1 (.inl ds')
      refine ite2 (fun c => ?_) (fun c => ?_)
      · refine ⟨sz (by simp), fun p hp1 => ?_⟩
        have kp := Kp.new (A := []) (o := .lst [.str "a", .str "b", .str "ab", .str "c.d"]) hp1
        have pps := ne_src s4 hp1
        refine ⟨_, rfl, s, 4, rfl, s4.kp kp List.not_mem_nil, by decide, by decide, fun j H5 j0 j1 k5 s5 => ?_⟩
        obtain ⟨j, rfl⟩ := Int.eq_ofNat_of_zero_le j0
        obtain ⟨nm, hnm, hin⟩ : ∃ nm : Str, ([.str "a", .str "b", .str "ab", .str "c.d"] : List V)[j]? = some (.str nm) ∧ nm ∈ poolS := by
          have : j = 0 ∨ j = 1 ∨ j = 2 ∨ j = 3 := by omega
          rcases this with e | e | e | e <;> subst e
          · exact ⟨"a", rfl, by decide +kernel⟩
          · exact ⟨"b", rfl, by decide +kernel⟩
          · exact ⟨"ab", rfl, by decide +kernel⟩
          · exact ⟨"c.d", rfl, by decide +kernel⟩
        have k45 := kp.nil.trans k5
        have e15 := k45.get e14 (.inl ds')
        have e05 := k45.get e04 (.inl ps')
        have kk5 := k2.trans (k4.trans k45)
        refine ⟨p, _, _, .str nm, rfl, rfl, SqL.of (k5.get (a := p) upd_same (.inl (by simpa using pps))), atI_nat hnm, _, rfl, _, rfl, d, _, rfl, DPut.k (k := Sum.inr n) e15 (szl (by omega)), ?_⟩
        refine ⟨⟨_, _, _, _, rfl⟩, by rw [upd_ne pd]; exact e05, kk5.put hd0, s5.kp (Kp.own (A := [d]) e15 rfl (by simp)) (by simpa using Ne.symm ds), _, fun m => if m = n then nm else r m, upd_same, Nat.le_trans (putK_len' _ _ _) (by omega), fun m => ?_, fun m hm => ?_⟩
        · rw [valV_put]
          dsimp only
          by_cases c : m = n
          · rw [if_pos (by rw [c]), if_pos c]; exact .inr rfl
          · rw [if_neg (fun q => c (Sum.inr.inj q)), if_neg c]; exact hr1 m
        · show (if m = n then nm else r m) ∈ poolS
          split
          · exact hin
          · exact hr2 m hm
      · exact ⟨⟨_, _, _, _, rfl⟩, e04, k2.trans k4, s4, kvs, r, e14, by omega, hr1, hr2⟩
    rintro σ H2 ⟨⟨v3, v4, v5, v6, rfl⟩, e0, k2, s2, kvs, r, e1, hl, hr1, hr2⟩
    clear h0 hp0 e0
    have ha2 := k2.get ha (.inl an)
    have fa2 := fa.kp k2
    have hp2 := hp.kp k2 an
    refine seq_setK ⟨sz (by simp), fun l hl0 => ?_⟩
    have kl := Kp.new (A := []) (o := .lst []) hl0
    refine seq_forK ⟨_, rfl, a, rfl, ⟨_, SqL.of (kl.get ha2 (.inl List.not_mem_nil))⟩, for_seq walk_list (fun i σ H' => (∃ v3 v5 v6 : Option V, σ = [some (.ref s), some (.ref a), some (.ref d), v3, some (.ref l), v5, v6]) ∧ PvF [] K 1 H2 l (((ts.take i).map fun p => (r p.1, p.2)).map prD) H') ⟨⟨_, _, _, rfl⟩, pvF_0 hl0⟩ (fun i σ H' _ z => SqL.of (z.2.kp.get ha2 (.inl List.not_mem_nil))) ?_ ?_⟩
    · rintro i w σ H4 H5 hi ⟨⟨v3, v5, v6, rfl⟩, pv⟩ ⟨rfl, hw⟩
      obtain ⟨p, hp', fp⟩ := fa2.atm hw
      obtain ⟨b, rfl, sb⟩ := prD_inv (fp.kp pv.kp)
      have e5 := pv.kp.get e1 (.inl List.not_mem_nil)
      obtain ⟨acc0, c0, _⟩ := pv.ex
      refine ⟨b, _, rfl, sb, rfl, _, _, rfl, gnK ⟨_, _, rfl, gnK ⟨rfl, ?_⟩⟩⟩
      dsimp only
      have fin : ∀ u, H5 u = none → ∃ acc, (upd H5 u (.tup [.str (r p.1), .int p.2])) l = some (.lst acc) ∧ acc.length < sizeLine ∧ PvF [] K 1 H2 l (((ts.take (i + 1)).map fun p => (r p.1, p.2)).map prD) (upd (upd H5 u (.tup [.str (r p.1), .int p.2])) l (.lst (acc ++ [.ref u]))) := fun u hu => by
        obtain ⟨acc, c1, c2, c3⟩ := pv.step (Kp.new (A := []) (o := .tup [.str (r p.1), .int p.2]) hu) List.not_mem_nil hl0 (by rw [List.length_map, List.length_map, List.length_take]; omega) (pr_fd (n := 0) (SqT.of upd_same))
        exact ⟨acc, c1, c2, c3.to (by rw [tk_map hp', List.map_append]; rfl)⟩
      refine if_anK ?_
      refine ⟨_, rfl, _, rfl, d, _, rfl, DGet.k (k := Sum.inr p.1) e5, _, rfl, ?_⟩
      rcases hr1 p.1 with ⟨z, er⟩ | z
      · rw [z]
        refine iteF ?_
        refine dropK' ?_
        refine ⟨_, rfl, .inl ⟨rfl, _, SqL.of c0⟩, _, rfl, _, rfl, sz (by simp), fun u hu => ?_⟩
        rw [er] at fin
        obtain ⟨acc, c1, c2, c3⟩ := fin u hu
        exact ⟨l, acc, _, rfl, rfl, c1, c2, ⟨_, _, _, rfl⟩, c3⟩
      · rw [z]
        refine iteT ?_
        refine dropK' ?_
        refine ⟨_, rfl, .inl ⟨rfl, _, SqL.of c0⟩, _, rfl, _, rfl, d, _, rfl, z ▸ DGet.k (k := Sum.inr p.1) e5, _, rfl, sz (by simp), fun u hu => ?_⟩
        obtain ⟨acc, c1, c2, c3⟩ := fin u hu
        exact ⟨l, acc, _, rfl, rfl, c1, c2, ⟨_, _, _, rfl⟩, c3⟩
    rintro σ H3 ⟨⟨v3, v5, v6, rfl⟩, pv⟩
    obtain ⟨acc, c1, c2⟩ := pv.ex
    rw [lx, List.take_length] at c2
    have k3 := pv.kp
    have ha3 := k3.get ha2 (.inl List.not_mem_nil)
    have hp3 := hp2.k0 k3
    have pl3 : PL K H3 l (mvT r ts) := ⟨⟨acc, c1, c2⟩, fun p hp' => by obtain ⟨m, hm, rfl⟩ := List.mem_map.mp hp'; exact hr2 _ (hp.n m hm), by unfold mvT; rw [List.length_map]; exact l20⟩
    have e3 := k3.get e1 (.inl List.not_mem_nil)
    refine seq_setK ⟨_, rfl, ?_⟩
    refine mk_sumA (K := K) (C := A 11) (ts := ts) Kp.refl (.inl (SqL.of ha3)) (fa2.kp k3) hp.n (by omega) fun x H4 k4 x4 => ?_
    obtain ⟨dx, tx, o1, _⟩ := x4.ex
    refine retK ?_
    refine ⟨_, rfl, x, dx, _, rfl, o1, lk_ne (by decide +kernel), _, rfl, x, d, _, r, rfl, x4, ⟨kvs, k4.get e3 (.inl List.not_mem_nil), fun n _ => hr1 n⟩, hr2, fun z H5 k5 z5 => ?_⟩
    have k45 := k4.trans k5
    refine ⟨_, rfl, z, l, _, _, rfl, z5, pl3.k0 k45, fun n _ => ?_, fun H6 k6 => ⟨_, rfl, ?_⟩⟩
    · rw [sumN_mv, sumN_mv, wsum_red hp.n]
    refine iteT ?_
    have k46 := k45.trans k6
    refine ⟨_, rfl, _, rfl, x, a, _, ts, rfl, x4.k0 (k5.trans k6), hp3.k0 k46, (fun _ _ => rfl), fun H7 k7 => ⟨_, rfl, ?_⟩⟩
    refine iteT ?_
    have k47 := k46.trans k7
    refine mk_sumA (K := K) (C := A 11) (ts := []) (xs := []) Kp.refl (.inr (T.d_Sum___init___0 _)) .nil (fun _ h => nomatch h) (by decide) fun y H8 k8 y8 => ?_
    refine ⟨sz (by simp), fun p hp => ?_⟩
    have k9 := Kp.new (A := []) (o := .lst []) hp
    refine ⟨y, p, _, [], rfl, y8.k0 k9, pl0, (fun _ _ => rfl), fun H10 k10 => ?_⟩
    have k310 : Kp [] H2 H10 := k3.trans (k47.trans (k8.trans (k9.trans k10)))
    exact q _ (k2.trans k310.nil) (s2.kp k310 List.not_mem_nil)
theorem poolS_len : ∀ n ∈ poolS, n.length ≤ 1000 := by decide +kernel
theorem all_succ (g : Nat → Bool) (i : Nat) : (List.range (i + 1)).all g = ((List.range i).all g && g i) := by
  rw [List.range_succ, List.all_append]; simp
theorem okT_trm (f : Str → Int) : okT (trm f) = true := by
  unfold okT
  rw [List.all_eq_true]
  intro k hk
  have hk' := List.mem_range.mp hk
  obtain ⟨p, hp⟩ : ∃ p, (trm f)[k]? = some p := ⟨_, List.getElem?_eq_getElem hk'⟩
  have nz : ∀ {q : Str × Int}, q ∈ trm f → q.2 ≠ 0 := fun h => by
    obtain ⟨m, hm, rfl⟩ := List.mem_map.mp h
    simpa using (List.mem_filter.mp hm).2
  have asc : Asc ((trm f).map (·.1)) := by
    have : (trm f).map (·.1) = poolS.filter fun n => decide (f n ≠ 0) := by
      unfold trm
      rw [List.map_map]
      exact (List.map_congr_left fun x _ => rfl).trans (List.map_id _)
    rw [this]
    exact poolS_asc.sublist List.filter_sublist
  unfold okAt
  rw [hp]
  have n0 := nz (List.mem_of_getElem? hp)
  simp only [n0, ne_eq, not_false_eq_true, decide_true, Bool.true_and]
  by_cases e : k = 0
  · simp [e]
  · obtain ⟨r, hr⟩ : ∃ r, (trm f)[k - 1]? = some r := ⟨_, List.getElem?_eq_getElem (by omega)⟩
    rw [hr]
    have h1 : ((trm f).map (·.1))[k - 1]? = some r.1 := by rw [List.getElem?_map, hr]; rfl
    have h2 : ((trm f).map (·.1))[k]? = some p.1 := by rw [List.getElem?_map, hp]; rfl
    obtain ⟨l1, e1⟩ := List.getElem?_eq_some_iff.mp h1
    obtain ⟨l2, e2⟩ := List.getElem?_eq_some_iff.mp h2
    have := List.pairwise_iff_getElem.mp asc (k - 1) k l1 l2 (by omega)
    rw [e1, e2] at this
    unfold lts
    simp [this]
def sp__law_form_right (K : PySem.W.Frag) : Sp := fun vs H Q _ => ∃ (a : Addr) (ts : List (Str × Int)), vs = [.ref a] ∧ PL K H a ts ∧ ∀ H', Kp [] H H' → Q (.bl true) H'
theorem ok__law_form_right (T : Txt K mg A D) : FnOk P w K mg base CX0 2 (A 31) (D 31) ["_law_pairs_here"] (sp__law_form_right K) := by
  refine T.F__law_form_right.ok sc__law_form_right (fun vs H Q E h => ?_) (fun cdv A' outer s H vs Q E hr h => ?_)
  · obtain ⟨a, ts, rfl, hp, q⟩ := h
    rfl
  · obtain ⟨a, ts, rfl, hp, q⟩ := h
    have hu := hu_of hr
    have G_is_terms : FnOk P w K mg base CX0 1 (A 10) (D 10) ["terms"] (sp_is_terms K) := ok_is_terms T
    have G__law_terms : FnOk P w K mg base CX0 1 (A 25) (D 25) ["_law_pairs_here"] (sp__law_terms K) := ok__law_terms T
    refine ⟨_, (pss_cons (ps_setLc (i := 1) (own := [("_law_pair", 5)]) (g := gName 5) (tt := tYes) rfl sc__law_form_right.nd rfl rfl (sw_true rfl rfl rfl (by decide +kernel))  (iK_list (K := K) rfl (pv 0)) (blkOk_by (N := N__law_form_right) (sc := defScope (topS 31)) (by decide +kernel)) (fun _ _ _ _ _ => (pg_name (i := 5) sc__law_form_right.nd rfl (Or.inl rfl))) (fun _ _ _ _ _ => pts_nil) (fun _ _ _ _ _ => (pe_ix (xK_tup (K := K) rfl) (pv 5) pe_int (fun _ _ => rfl))))
      (pss_cons (ps_set (i := 2) sc__law_form_right.nd rfl (Or.inl rfl) pe_bl)
      (pss_cons (ps_for PassesOwn.never rfl (pi_range1 rfl T.z_range (pa_cons (pe_callB (id := "len") (cK_len (K := K) rfl) (by rfl) T.z_len (by decide +kernel) (pa_cons (pv 0) pa_nil)) pa_nil)) (pg_name (i := 3) sc__law_form_right.nd rfl (Or.inl rfl))
        (pss_one (ps_if (PW.pt (pw_or (pt_cmpR op_eq (pe_ix (xK_tup (K := K) rfl) (pe_ix (xK_list (K := K) rfl) (pv 0) (pv 3) (fun _ _ => rfl)) pe_int (fun _ _ => rfl)) pe_int (nomark _)) (pw_or1 (PW.pt (pw_and (pt_cmpR op_gt (pv 3) pe_int (nomark _)) (pw_and1 (pt_cmpR op_ge_str (pe_ix (xK_list (K := K) rfl) (pv 1) (pe_op op_sub (pv 3) pe_int) (fun _ _ => rfl)) (pe_ix (xK_list (K := K) rfl) (pv 1) (pv 3) (fun _ _ => rfl)) (nomark _))))))))
          (pss_one (ps_set (i := 2) sc__law_form_right.nd rfl (Or.inl rfl) pe_bl))
          pss_nil)))
      (pss_cons (ps_set (i := 4) sc__law_form_right.nd rfl (Or.inl rfl) (pe_call G_is_terms (hr.mono (by decide)) rfl T.g_is_terms T.F_is_terms.kp T.b_is_terms .nil pass0 (pa_cons (pe_callTy (T := "tuple") (cK_tuple (K := K) rfl) (by rfl) T.z_tuple (by decide +kernel) (pa_cons (pv 0) pa_nil)) pa_nil)))
      (pss_one (ps_ret (pe_and (pe_callB (id := "isinstance") (cK_isi (K := K) rfl) (by rfl) T.z_isinstance (by decide +kernel) (pa_cons (pv 4) (pa_cons (pe_bltn (v := .ty "bool") (u := .type "bool") (by rfl) T.z_bool (by decide +kernel) rfl) pa_nil))) (pe_and (pe_cmpR op_eq (pv 4) (pv 2) (nomark _)) (pe_one (pe_cmpR op_is_bl (pe_call G_is_terms (hr.mono (by decide)) rfl T.g_is_terms T.F_is_terms.kp T.b_is_terms .nil pass0 (pa_cons (pe_call G__law_terms (hr.mono (by decide)) rfl T.g__law_terms T.F__law_terms.kp T.b__law_terms .nil pass0 (pa_cons (pv 0) pa_nil)) pa_nil)) pe_bl (nomark _))))))))))), ?_⟩
    obtain ⟨xs, ha, hd⟩ := hp.ex
    have ln : xs.length = ts.length := by rw [hd.length, List.length_map]
    have l20 := hp.l
    walk_at "st"
    refine ⟨_, rfl, a, rfl, ⟨_, SqL.of ha⟩, fun D hD => lc_it walk_list (fun i H' => H' D = some (.lst (((ts.take i).map (·.1)).map V.str)) ∧ Kp [] H H') ⟨upd_same, Kp.new hD⟩ (fun i H' _ z => z.2.sqL List.not_mem_nil (SqL.of ha)) ?_ ?_⟩
    · rintro i w H1 H2 hi ⟨e1, k1⟩ ⟨rfl, hw⟩
      obtain ⟨p, hp', fp⟩ := hd.atm hw
      obtain ⟨b, rfl, sb⟩ := prD_inv (fp.kp k1)
      refine gnK ⟨rfl, ?_⟩
      refine yesK ?_
      refine iteT ?_
      refine ⟨_, rfl, b, _, 0, _, rfl, rfl, sb, rfl, _, e1, szl (by have := tk_len (g := fun p : Str × Int => p.1) (xs := ts) i; rw [List.length_map]; omega), ?_, k1.put hD⟩
      rw [tk_map hp', List.map_append]; exact upd_same
    rintro H1 ⟨e1, k1⟩
    rw [ln, List.take_length] at e1
    have ha1 := k1.get ha (.inl List.not_mem_nil)
    have hd1 := hd.kp k1
    have hp1 := hp.k0 k1
    have get : ∀ {j : Nat} {p : Str × Int} {i : Int}, ts[j]? = some p → i = (j : Int) → ∃ b, atI xs i = some (.ref b) ∧ SqT K H1 b [.str p.1, .int p.2] := fun hj ei => by
      obtain ⟨v, hv, fv⟩ := hd1.atm' hj
      obtain ⟨b, rfl, sb⟩ := prD_inv fv
      exact ⟨b, atI_nat' hv ei, sb⟩
    have getN : ∀ {j : Nat} {p : Str × Int} {i : Int}, ts[j]? = some p → i = (j : Int) → atI ((ts.map (·.1)).map V.str) i = some (.str p.1) := fun hj ei => atI_nat' (by rw [List.getElem?_map, List.getElem?_map, hj]; rfl) ei
    refine seq_set vl_c ?_
    refine seq_forK ⟨_, rfl, _, ts.length, rfl, .inl ⟨_, SqL.of ha1, ln.symm⟩, _, rfl, by omega, by omega, for_seq walk_range (fun i σ H' => (∃ v3 v4 v5 : Option V, σ = [some (.ref a), some (.ref D), some (.bl ((List.range i).all (okAt ts))), v3, v4, v5]) ∧ H' = H1) ⟨⟨_, _, _, rfl⟩, rfl⟩ (fun _ _ _ _ _ => trivial) ?_ ?_⟩
    · rintro i w σ H3 H2 hi ⟨⟨v3, v4, v5, rfl⟩, rfl⟩ ⟨rfl, rfl⟩
      have hi' : i < ts.length := hi
      obtain ⟨p, hp⟩ : ∃ p, ts[i]? = some p := ⟨_, List.getElem?_eq_getElem hi'⟩
      obtain ⟨b, eb, sb⟩ := get (i := 0 + (i : Int)) hp (by simp)
      refine gnK ?_
      refine if_anK ?_
      refine ⟨_, rfl, _, rfl, a, xs, _, _, rfl, rfl, SqL.of ha1, eb, b, _, 1, _, rfl, rfl, sb, rfl, rfl, _, rfl, ?_⟩
      refine ite2 (fun c => ?_) (fun c => ?_)
      · have c' : p.2 = 0 := by simpa using c
        refine iteT ?_
        refine setK ?_
        refine ⟨⟨some (.int (0 + (i : Int))), v4, v5, ?_⟩, rfl⟩
        rw [all_succ, show okAt ts i = false by unfold okAt; rw [hp]; simp [c'], Bool.and_false]; rfl
      · have c' : p.2 ≠ 0 := by simpa using c
        refine ⟨_, rfl, _, _, rfl, rfl, _, rfl, ?_⟩
        refine ite2 (fun e => ?_) (fun e => ?_)
        · have e' : 0 < i := by simpa using e
          obtain ⟨r, hr⟩ : ∃ r, ts[i - 1]? = some r := ⟨_, List.getElem?_eq_getElem (by omega)⟩
          refine ⟨_, rfl, _, rfl, _, _, rfl, rfl, D, _, _, _, rfl, rfl, SqL.of e1, getN (i := 0 + (i : Int) - 1) hr (by omega), _, rfl, _, rfl, D, _, _, _, rfl, rfl, SqL.of e1, getN (i := 0 + (i : Int)) hp (by simp), _, _, rfl, rfl, _, rfl, ?_⟩
          have i0 : (i == 0) = false := by simp; omega
          have eq : okAt ts i = lts r.1 p.1 := by unfold okAt; rw [hp, hr]; simp [c', i0]
          refine ite2 (fun g => ?_) (fun g => ?_)
          · have g' : lts r.1 p.1 = false := by unfold lts slt TL.tl; simpa using g
            refine setK ?_
            refine ⟨⟨some (.int (0 + (i : Int))), v4, v5, ?_⟩, rfl⟩
            rw [all_succ, eq, g', Bool.and_false]; rfl
          · have g' : lts r.1 p.1 = true := by unfold lts slt TL.tl; simpa using g
            refine ⟨⟨some (.int (0 + (i : Int))), v4, v5, ?_⟩, rfl⟩
            rw [all_succ, eq, g', Bool.and_true]; rfl
        · have e'' : ¬ 0 < i := by simpa using e
          have e' : i = 0 := by omega
          refine iteF ?_
          refine ⟨⟨some (.int (0 + (i : Int))), v4, v5, ?_⟩, rfl⟩
          rw [all_succ, show okAt ts i = true by unfold okAt; rw [hp]; simp [c', e'], Bool.and_true]; rfl
    rintro σ H2 ⟨⟨v3, v4, v5, rfl⟩, rfl⟩
    walk_at "st"
    refine ⟨_, rfl, a, xs, rfl, .inl ⟨SqL.of ha1, fun u hu => ?_⟩⟩
    have ku := Kp.new (A := []) (o := .tup xs) hu
    refine ⟨.ref u, ts, rfl, .tup (SqT.of upd_same) (hd1.kp ku), by omega, fun p hp' => poolS_len _ (hp.n p hp'), ?_⟩
    walk_at "st"
    refine ⟨_, rfl, _, _, _, _, true, rfl, .ty _, .base (.bl _), kit_ty (by decide +kernel), _, rfl, ?_⟩
    refine iteT ?_
    refine ⟨_, rfl, _, rfl, rfl, _, rfl, ?_⟩
    refine ite2 (fun _ => ?_) (fun c => by simp at c; exact absurd rfl c)
    refine ⟨_, rfl, a, ts, rfl, hp1.k0 ku, fun p H3 k3 f3 => ?_⟩
    refine ⟨.ref p, _, rfl, f3, Nat.le_trans (trm_len _) (by decide), fun p hp' => poolS_len _ (trm_inP _ p hp'), _, _, rfl, rfl, ?_⟩
    refine asB (q _ (k1.trans (ku.trans k3))) ?_
    rw [okT_trm]; rfl
theorem PL.ne {H : Hp} {a p : Addr} {ts : List (Str × Int)} (h : PL K H a ts) (hp : H p = none) : a ≠ p := fun e => by
  obtain ⟨xs, h1, _⟩ := h.ex
  rw [e, hp] at h1; cases h1
def sp_law (K : PySem.W.Frag) : Sp := fun vs H Q _ => ∃ (a : Addr) (ns : List Int), vs = [.ref a] ∧ SqL K H a (ns.map V.int) ∧ ns.length ≤ 63 ∧ ∀ H', Q (.bl true) H'
theorem ok_law (T : Txt K mg A D) : FnOk P w K mg base CX0 7 (A 32) (D 32) ["_law_script"] (sp_law K) := by
  refine T.F_law.ok sc_law (fun vs H Q E h => ?_) (fun cdv A' outer s H vs Q E hr h => ?_)
  · obtain ⟨a, ns, rfl, hS, hl, q⟩ := h
    rfl
  · obtain ⟨a, ns, rfl, hS, hl, q⟩ := h
    have hu := hu_of hr
    have G__law_ratios_right : FnOk P w K mg base CX0 5 (A 23) (D 23) ["_law_source_here"] (sp__law_ratios_right K) := ok__law_ratios_right T
    have G__law_source : FnOk P w K mg base CX0 1 (A 13) (D 13) ["_law_script", "_law_k"] (sp__law_source K) := ok__law_source T
    have G__law_pairs : FnOk P w K mg base CX0 4 (A 24) (D 24) ["_law_source_here"] (sp__law_pairs K) := ok__law_pairs T
    have G__law_draw : FnOk P w K mg base CX0 1 (A 14) (D 14) ["_law_source_here", "_law_limit"] (sp__law_draw K) := ok__law_draw T
    have G__law_scaled : FnOk P w K mg base CX0 1 (A 27) (D 27) ["_law_pairs_here", "_law_factor"] (sp__law_scaled K) := ok__law_scaled T
    have G_Sum___init__ : FnOk P w K mg base CX0 2 (A 1220) (D 1220) ["self", "terms"] (sp_Sum___init__ K (A 11)) := ok_Sum___init__ T
    have G__law_form_right : FnOk P w K mg base CX0 2 (A 31) (D 31) ["_law_pairs_here"] (sp__law_form_right K) := ok__law_form_right T
    have G__law_same : FnOk P w K mg base CX0 3 (A 26) (D 26) ["_law_actual", "_law_pairs_here"] (sp__law_same K (A 11)) := ok__law_same T
    have G__law_signs_right : FnOk P w K mg base CX0 6 (A 28) (D 28) ["_law_left", "_law_right", "_law_factor"] (sp__law_signs_right K) := ok__law_signs_right T
    have G__law_number : FnOk P w K mg base CX0 3 (A 16) (D 16) ["_law_source_here"] (sp__law_number K) := ok__law_number T
    have G__law_names_right : FnOk P w K mg base CX0 5 (A 30) (D 30) ["_law_source_here", "_law_pairs_here"] (sp__law_names_right K) := ok__law_names_right T
    have G__law_values_right : FnOk P w K mg base CX0 5 (A 29) (D 29) ["_law_source_here", "_law_pairs_here"] (sp__law_values_right K) := ok__law_values_right T
    refine ⟨_, (pss_cons (ps_if (pt_not (pt_val (pe_call G__law_ratios_right (hr.mono (by decide)) rfl T.g__law_ratios_right T.F__law_ratios_right.kp T.b__law_ratios_right .nil pass0 (pa_cons (pe_call G__law_source (hr.mono (by decide)) rfl T.g__law_source T.F__law_source.kp T.b__law_source .nil pass0 (pa_cons (pv 0) (pa_cons pe_int pa_nil))) pa_nil))))
        (pss_one (ps_ret pe_bl))
        pss_nil)
      (pss_cons (ps_set (i := 1) sc_law.nd rfl (Or.inl rfl) (pe_call G__law_source (hr.mono (by decide)) rfl T.g__law_source T.F__law_source.kp T.b__law_source .nil pass0 (pa_cons (pv 0) (pa_cons pe_int pa_nil))))
      (pss_cons (ps_set (i := 2) sc_law.nd rfl (Or.inl rfl) (pe_call G__law_pairs (hr.mono (by decide)) rfl T.g__law_pairs T.F__law_pairs.kp T.b__law_pairs .nil pass0 (pa_cons (pv 1) pa_nil)))
      (pss_cons (ps_set (i := 3) sc_law.nd rfl (Or.inl rfl) (pe_call G__law_pairs (hr.mono (by decide)) rfl T.g__law_pairs T.F__law_pairs.kp T.b__law_pairs .nil pass0 (pa_cons (pv 1) pa_nil)))
      (pss_cons (ps_if (pt_cmpR op_eq (pe_call G__law_draw (hr.mono (by decide)) rfl T.g__law_draw T.F__law_draw.kp T.b__law_draw .nil pass0 (pa_cons (pv 1) (pa_cons pe_int pa_nil))) pe_int (nomark _))
        (pss_one (ps_set (i := 3) sc_law.nd rfl (Or.inl rfl) (pe_call G__law_scaled (hr.mono (by decide)) rfl T.g__law_scaled T.F__law_scaled.kp T.b__law_scaled .nil pass0 (pa_cons (pv 2) (pa_cons (pe_un un_neg pe_int) pa_nil)))))
        pss_nil)
      (pss_cons (ps_set (i := 4) sc_law.nd rfl (Or.inl rfl) (pe_callTy (T := "list") (cK_list (K := K) rfl) (by rfl) T.z_list (by decide +kernel) (pa_cons (pv 2) pa_nil)))
      (pss_cons (ps_set (i := 5) sc_law.nd rfl (Or.inl rfl) (pe_makeO T.mk_Sum G_Sum___init__ (hr.mono (by decide)) rfl T.g_Sum T.b_Sum___init__ .nil (pas0 pass0) (pa_cons (pv 4) pa_nil)))
      (pss_cons (ps_if (PW.pt (pw_or (pt_cmpR (oP_ne (K := K) rfl hr.units) (pv 4) (pv 2) (nomark _)) (pw_or1 (pt_not (pt_val (pe_call G__law_form_right (hr.mono (by decide)) rfl T.g__law_form_right T.F__law_form_right.kp T.b__law_form_right .nil pass0 (pa_cons (pv 2) pa_nil)))))))
        (pss_one (ps_ret pe_bl))
        pss_nil)
      (pss_cons (ps_expr (pe_bm PySem.F.plainAttrs_list PySem.F.slot_list_append PySem.F.type_list_append mt_append (pv 4) (pa_cons (pe_tup (pa_cons pe_str (pa_cons pe_int pa_nil))) pa_nil)))
      (pss_cons (ps_if (PW.pt (pw_or (pt_not (pt_val (pe_call G__law_same (hr.mono (by decide)) rfl T.g__law_same T.F__law_same.kp T.b__law_same .nil pass0 (pa_cons (pv 5) (pa_cons (pv 2) pa_nil))))) (pw_or1 (pt_not (pt_val (pe_call G__law_same (hr.mono (by decide)) rfl T.g__law_same T.F__law_same.kp T.b__law_same .nil pass0 (pa_cons (pe_makeO T.mk_Sum G_Sum___init__ (hr.mono (by decide)) rfl T.g_Sum T.b_Sum___init__ .nil (pas0 pass0) (pa_cons (pv 4) pa_nil)) (pa_cons (pe_op op_cat (pv 2) (pe_lst (pa_cons (pe_tup (pa_cons pe_str (pa_cons pe_int pa_nil))) pa_nil))) pa_nil))))))))
        (pss_one (ps_ret pe_bl))
        pss_nil)
      (pss_cons (ps_if (pt_not (pt_val (pe_call G__law_signs_right (hr.mono (by decide)) rfl T.g__law_signs_right T.F__law_signs_right.kp T.b__law_signs_right .nil pass0 (pa_cons (pv 2) (pa_cons (pv 3) (pa_cons (pe_call G__law_number (hr.mono (by decide)) rfl T.g__law_number T.F__law_number.kp T.b__law_number .nil pass0 (pa_cons (pv 1) pa_nil)) pa_nil))))))
        (pss_one (ps_ret pe_bl))
        pss_nil)
      (pss_cons (ps_set (i := 1) sc_law.nd rfl (Or.inl rfl) (pe_call G__law_source (hr.mono (by decide)) rfl T.g__law_source T.F__law_source.kp T.b__law_source .nil pass0 (pa_cons (pv 0) (pa_cons pe_int pa_nil))))
      (pss_one (ps_ret (pe_and (pe_call G__law_values_right (hr.mono (by decide)) rfl T.g__law_values_right T.F__law_values_right.kp T.b__law_values_right .nil pass0 (pa_cons (pv 1) (pa_cons (pv 2) pa_nil))) (pe_and (pe_call G__law_names_right (hr.mono (by decide)) rfl T.g__law_names_right T.F__law_names_right.kp T.b__law_names_right .nil pass0 (pa_cons (pv 1) (pa_cons (pv 3) pa_nil))) (pe_one (pe_call G__law_form_right (hr.mono (by decide)) rfl T.g__law_form_right T.F__law_form_right.kp T.b__law_form_right .nil pass0 (pa_cons (pv 3) pa_nil))))))))))))))))))), ?_⟩
    have src : ∀ {H' : Hp}, Kp [] H H' → SqL K H' a (ns.map V.int) := fun k => k.sqL List.not_mem_nil hS
    refine seq_ifK0 ?_
    refine ⟨_, rfl, a, ns, 0, rfl, hS, hl, fun p H1 hp k1 s1 => ⟨p, rfl, s1, fun H2 k2 => ⟨_, rfl, ?_⟩⟩⟩
    refine iteF ?_
    have k02 : Kp [] H H2 := Kp.back hp (k1.nil.trans k2)
    clear s1 k1 k2 hp
    -- the source, left, right
    walk_at "st"
    refine ⟨_, rfl, a, ns, 1, rfl, src k02, hl, fun s H3 hs0 k3 s3 => ?_⟩
    walk_at "st"
    refine ⟨_, rfl, s, rfl, s3, fun l xs ts H4 hl0 k4 s4 hl4 fl4 pl4 ll4 ml4 => ?_⟩
    have ls := ne_src s3 hl0
    have ls' : l ∉ [s] := by simpa using ls
    have L4 : PL K H4 l ts := ⟨⟨xs, hl4, fl4⟩, pl4, by omega⟩
    walk_at "st"
    refine ⟨_, rfl, s, rfl, s4, fun b ys us H5 hb0 k5 s5 hb5 fb5 pb5 lb5 mb5 => ?_⟩
    have bs := ne_src s4 hb0
    have bs' : b ∉ [s] := by simpa using bs
    have B5 : PL K H5 b us := ⟨⟨ys, hb5, fb5⟩, pb5, by omega⟩
    have L5 := L4.kp k5 ls'
    have k35 := k4.trans k5
    clear hb5 fb5 hl4 fl4 L4 k4 k5 s4
    refine' joinL (P := fun (b : Addr) H' => b ∉ [s] ∧ PL K H' l ts ∧ Src H' s ∧ Kp [s] H3 H' ∧ ∃ us, PL K H' b us ∧ us.length ≤ 6 ∧ ∀ x ∈ us, Sm 41 x.2) ?g2 (fun rest => ?g1)
    case g1 =>
      refine seq_ifK0 ⟨_, rfl, s, 3, rfl, s5, by decide, by decide, fun c H6 c0 c1 k6 s6 => ⟨rfl, _, rfl, ?_⟩⟩
      refine' ite2 (fun c => ?t1) (fun c => ?t2)
      case t2 =>
        obtain ⟨z, ez⟩ : ∃ z, z = b := ⟨_, rfl⟩
        rw [← ez] at B5 bs' ⊢
        exact rest z H6 ⟨bs', L5.kp k6 ls', s6, k35.trans k6, us, B5.kp k6 bs', lb5, mb5⟩
      case t1 =>
        refine setK ⟨_, rfl, _, rfl, l, ts, -1, rfl, L5.kp k6 ls', ml4, by unfold Sm; decide, fun r H7 hr k7 R7 => ?_⟩
        refine rest r H7 ⟨by simpa using ne_src s6 hr, (L5.kp k6 ls').k0 k7, s6.kp k7 List.not_mem_nil, k35.trans (k6.trans k7.nil), _, R7, by rw [List.length_map]; exact ll4, fun x hx => ?_⟩
        obtain ⟨y, hy, rfl⟩ := List.mem_map.mp hx
        show Sm 41 (-1 * y.2)
        have := (ml4 y hy).neg
        rw [Int.neg_one_mul]; exact this
    clear B5 bs bs' pb5 lb5 mb5 hb0 L5 k35 s5
    rintro b H6 ⟨bs', L6, s6, k36, us, B6, lb, mb⟩
    -- passed, first
    obtain ⟨xs6, hl6, fl6⟩ := L6.ex
    walk_at "st"
    refine ⟨_, rfl, l, xs6, rfl, .inl (SqL.of hl6), fun p hp => ?_⟩
    have kp := Kp.new (A := []) (o := .lst xs6) hp
    have lp := L6.ne hp
    have bp := B6.ne hp
    have ps := ne_src s6 hp
    walk_at "st"
    refine ⟨_, rfl, ?_⟩
    have ep7 : (upd H6 p (.lst xs6)) p = some (.lst xs6) := upd_same
    refine mk_sumA (K := K) (C := A 11) (ts := ts) Kp.refl (.inl (SqL.of ep7)) (fl6.kp kp) L6.n (by omega) fun x H7 k7 x7 => ?_
    have ep8 := k7.get ep7 (.inl List.not_mem_nil)
    have k67 := kp.trans k7
    obtain ⟨dx, tx, o1, _⟩ := x7.ex
    have xp : x ≠ p := fun e => by rw [e, ep8] at o1; cases o1
    have hl7 := k67.get hl6 (.inl List.not_mem_nil)
    have fl7 := fl6.kp k67
    have L7 := L6.k0 k67
    clear ep7 o1
    refine seq_ifK0 ?_
    refine ⟨_, rfl, _, rfl, _, _, lst_dp (SqL.of ep8) fl7, lst_dp (SqL.of hl7) fl7, lst_pln fl7 (by decide), lst_pln fl7 (by decide), _, rfl, ?_⟩
    rw [eqv_same (lst_pln fl7 (by decide)).1]
    refine iteF ?_
    refine ⟨_, rfl, l, ts, rfl, L7, fun H8 k8 => ⟨_, rfl, ?_⟩⟩
    refine iteF ?_
    have k68 := k67.trans k8
    have ep9 := k8.get ep8 (.inl List.not_mem_nil)
    have L8 := L7.k0 k8
    have B8 := B6.k0 k68
    have x8 := x7.k0 k8
    have s8 := s6.kp k68 List.not_mem_nil
    have fl8 := fl7.kp k8
    have ln : xs6.length = ts.length := by rw [fl6.length, List.length_map]
    clear ep8 L7 x7 fl7 hl7
    -- passed.append(('a', 1))
    refine seq_dropK ?_
    refine ⟨_, rfl, .inl ⟨rfl, _, SqL.of ep9⟩, sz (by simp), fun u hu => ?_⟩
    have ku := Kp.new (A := []) (o := .tup [.str "a", .int 1]) hu
    have ep10 := ku.get ep9 (.inl List.not_mem_nil)
    refine ⟨p, xs6, _, rfl, rfl, ep10, szl (by omega), ?_⟩
    have ko := Kp.own (A := [p]) (o' := .lst (xs6 ++ [.ref u])) ep10 rfl (by simp)
    have k8u := ku.nil.trans ko
    have hin : (("a" : Str)) ∈ poolS := by decide +kernel
    have inA : inP (ts ++ [(("a" : Str), (1 : Int))]) := inP_app L6.n fun q hq => by rw [List.mem_singleton.mp hq]; exact hin
    have P10 : PL K (upd (upd H8 u (.tup [.str "a", .int 1])) p (.lst (xs6 ++ [.ref u]))) p (ts ++ [(("a" : Str), (1 : Int))]) := ⟨⟨_, upd_same, by rw [List.map_append]; exact (fl8.kp k8u).app (.one (pr_fd (n := 0) (ko.sqT (SqT.of upd_same))))⟩, inA, by rw [List.length_append, List.length_singleton]; omega⟩
    have L10 := L8.kp k8u (by simpa using lp)
    have B10 := B8.kp k8u (by simpa using bp)
    have x10 := x8.kp k8u (by simpa using xp)
    have s10 := s8.kp k8u (by simpa using Ne.symm ps)
    have hp3 : H3 p = none := k36.none (by simpa using ps) hp
    have k310 := ((k36.trans k68.nil).trans ku.nil).put (o := .lst (xs6 ++ [.ref u])) hp3
    generalize upd (upd H8 u (.tup [.str "a", .int 1])) p (.lst (xs6 ++ [.ref u])) = H10 at P10 L10 B10 x10 s10 k310
    clear ko ep10 ep9 hu ku k8u L8 B8 x8 s8 fl8 k68 k67 k36 hp3
    obtain ⟨ps10, hp10, fp10⟩ := P10.ex
    refine seq_ifK0 ?_
    refine ⟨_, rfl, _, rfl, x, l, _, ts, rfl, x10, L10, (fun _ _ => rfl), fun H11 k11 => ⟨_, rfl, ?_⟩⟩
    refine iteF ?_
    refine ⟨_, rfl, ?_⟩
    refine mk_sumA (K := K) (C := A 11) (ts := ts ++ [(("a" : Str), (1 : Int))]) Kp.refl (.inl (SqL.of (k11.get hp10 (.inl List.not_mem_nil)))) (fp10.kp k11) inA (by rw [List.length_append, List.length_singleton]; omega) fun y H12 k12 y12 => ?_
    refine ⟨_, rfl, sz (by simp), fun u hu => ⟨sz (by simp), fun m hm => ?_⟩⟩
    have ku := Kp.new (A := []) (o := .tup [.str "a", .int 1]) hu
    have km := Kp.new (A := []) (o := .lst [.ref u]) hm
    have kum := ku.trans km
    have M : PL K (upd (upd H12 u (.tup [.str "a", .int 1])) m (.lst [.ref u])) m [(("a" : Str), (1 : Int))] := ⟨⟨_, upd_same, .one (pr_fd (n := 0) (km.sqT (SqT.of upd_same)))⟩, fun q hq => by rw [List.mem_singleton.mp hq]; exact hin, by decide⟩
    have k1012 := k11.trans k12
    refine plCat ((L10.k0 k1012).k0 kum) M (by rw [List.length_singleton]; omega) fun r H13 k13 r13 => ?_
    refine ⟨y, r, _, _, rfl, (y12.k0 kum).k0 k13, r13, (fun _ _ => rfl), fun H14 k14 => ⟨_, rfl, ?_⟩⟩
    refine iteF ?_
    have k1014 : Kp [] H10 H14 := k1012.trans (kum.trans (k13.trans k14))
    have L14 := L10.k0 k1014
    have B14 := B10.k0 k1014
    have s14 := s10.kp k1014 List.not_mem_nil
    have k314 := k310.trans k1014.nil
    clear M y12 r13 ku km kum hu hm k1012 k11 k12 k13 k14 P10 hp10 fp10 L10 B10 x10 s10 k310 k1014
    -- signs
    refine seq_ifK0 ?_
    refine ⟨_, rfl, _, rfl, _, rfl, s, rfl, s14, fun c H15 hc k15 s15 => ⟨l, b, ts, us, c, rfl, L14.kp k15 ls', B14.kp k15 bs', by omega, by omega, ml4, mb, hc, fun H16 k16 => ⟨_, rfl, ?_⟩⟩⟩
    refine iteF ?_
    have L16 := (L14.kp k15 ls').k0 k16
    have B16 := (B14.kp k15 bs').k0 k16
    have k316 : Kp [s] H3 H16 := k314.trans (k15.trans k16.nil)
    have k016 : Kp [] H H16 := k02.trans (Kp.back hs0 (k3.nil.trans k316))
    walk_at "st"
    refine ⟨_, rfl, a, ns, 2, rfl, src k016, hl, fun s' H17 hs' k17 s17 => ?_⟩
    have ls2 := L16.ne hs'
    have bs2 := B16.ne hs'
    refine retK ?_
    refine ⟨_, rfl, _, rfl, s', l, ts, rfl, s17, L16.k0 k17, ls2, ml4, fun H18 k18 s18 => ⟨_, rfl, ?_⟩⟩
    refine iteT ?_
    have B18 := (B16.k0 k17).kp k18 (by simpa using bs2)
    refine ⟨_, rfl, _, rfl, s', b, us, rfl, s18, B18, bs2, fun H19 k19 s19 => ⟨_, rfl, ?_⟩⟩
    refine iteT ?_
    exact ⟨_, rfl, b, us, rfl, B18.kp k19 (by simpa using bs2), fun H20 k20 => q _⟩
end
theorem all_mk {l : PySem.W.OpenLaw} {w : World} {K : PySem.W.Frag} {h : Heap} {mg : Str → Option Value} {fa : Addr} (X : K.In h) (G : h.Ns mainGlobals mg) (hfa : mg "law" = some (.ref fa))
    {f11 : Addr}
    (a11 : PySem.W.nsIn K mainGlobals "Sum" = some (some (.ref f11)))
    (pg11 : PySem.W.plainGet K f11 Str.empty = true)
    (hd11 : PySem.W.hasDictIn K f11 = true)
    (po11 : PySem.W.plainOver K f11 = true)
    (os11 : PySem.W.findIn K (.ref f11) "__setattr__" = some (some (.builtin "object.__setattr__")))
    (rd11 : PySem.W.readsIn K f11 (.type "type") = true)
    (og11 : PySem.W.specialIn K (.ref f11) "__getattribute__" = some (some (.builtin "type.__getattribute__")))
    (sf11 : PySem.W.selfFirst K f11 = true)
    (n11_terms : PySem.W.findIn K (.ref f11) "terms" = some none)
    (mk11 : PySem.W.makesIn K f11 = true)
    (kp11 : PySem.W.keepIn K (.ref f11) = true)
    {oc1220 kV1220 dc1220 pm1220 cd1220 ct1220 : Value} {od1220 an1220 : Option Addr} {sl1220 : Array (Option Value)} {f1220 : Addr}
    (at1220 : PySem.W.findIn K (.ref f11) "__init__" = some (some (.ref f1220)))
    (fn1220 : PySem.W.isFn K (.ref f1220) = true)
    {et1220_0 : Addr} {ed1220_0 : Option Addr} {en1220_0 : Nat} {es1220_0 : Array (Option Value)}
    {dt1220 : Addr} {dd1220 : Option Addr} {dn1220 : Nat} {ds1220 : Array (Option Value)}
    (l1220 : K.lookup f1220 = some ⟨oc1220, od1220, .func (PySem.W.fnOf "__init__" "Sum.__init__" (defArgs (topM 11 0)) (defBody (topM 11 0)) (defScope (topM 11 0)) (.ref dt1220) kV1220 dc1220 pm1220 an1220 cd1220 ct1220), sl1220⟩)
    (lt1220 : K.lookup dt1220 = some ⟨.type "tuple", dd1220, .seq #[.ref et1220_0] dn1220, ds1220⟩)
    (le1220_0 : K.lookup et1220_0 = some ⟨.type "tuple", ed1220_0, .seq #[] en1220_0, es1220_0⟩)
    (c1220 : PySem.W.codeIn K cd1220 "Sum.__init__" = true)
    (k1220 : PySem.W.keepIn K (.ref f1220) = true)
    {oc1221 kV1221 dc1221 pm1221 cd1221 ct1221 : Value} {od1221 an1221 : Option Addr} {sl1221 : Array (Option Value)} {f1221 : Addr}
    (at1221 : PySem.W.findIn K (.ref f11) "__len__" = some (some (.ref f1221)))
    (fn1221 : PySem.W.isFn K (.ref f1221) = true)
    (l1221 : K.lookup f1221 = some ⟨oc1221, od1221, .func (PySem.W.fnOf "__len__" "Sum.__len__" (defArgs (topM 11 1)) (defBody (topM 11 1)) (defScope (topM 11 1)) .none kV1221 dc1221 pm1221 an1221 cd1221 ct1221), sl1221⟩)
    (c1221 : PySem.W.codeIn K cd1221 "Sum.__len__" = true)
    (k1221 : PySem.W.keepIn K (.ref f1221) = true)
    {oc1222 kV1222 dc1222 pm1222 cd1222 ct1222 : Value} {od1222 an1222 : Option Addr} {sl1222 : Array (Option Value)} {f1222 : Addr}
    (at1222 : PySem.W.findIn K (.ref f11) "__iter__" = some (some (.ref f1222)))
    (fn1222 : PySem.W.isFn K (.ref f1222) = true)
    (l1222 : K.lookup f1222 = some ⟨oc1222, od1222, .func (PySem.W.fnOf "__iter__" "Sum.__iter__" (defArgs (topM 11 2)) (defBody (topM 11 2)) (defScope (topM 11 2)) .none kV1222 dc1222 pm1222 an1222 cd1222 ct1222), sl1222⟩)
    (c1222 : PySem.W.codeIn K cd1222 "Sum.__iter__" = true)
    (k1222 : PySem.W.keepIn K (.ref f1222) = true)
    {oc1223 kV1223 dc1223 pm1223 cd1223 ct1223 : Value} {od1223 an1223 : Option Addr} {sl1223 : Array (Option Value)} {f1223 : Addr}
    (at1223 : PySem.W.findIn K (.ref f11) "__contains__" = some (some (.ref f1223)))
    (fn1223 : PySem.W.isFn K (.ref f1223) = true)
    (l1223 : K.lookup f1223 = some ⟨oc1223, od1223, .func (PySem.W.fnOf "__contains__" "Sum.__contains__" (defArgs (topM 11 3)) (defBody (topM 11 3)) (defScope (topM 11 3)) .none kV1223 dc1223 pm1223 an1223 cd1223 ct1223), sl1223⟩)
    (c1223 : PySem.W.codeIn K cd1223 "Sum.__contains__" = true)
    (k1223 : PySem.W.keepIn K (.ref f1223) = true)
    {oc1224 kV1224 dc1224 pm1224 cd1224 ct1224 : Value} {od1224 an1224 : Option Addr} {sl1224 : Array (Option Value)} {f1224 : Addr}
    (at1224 : PySem.W.findIn K (.ref f11) "__getitem__" = some (some (.ref f1224)))
    (fn1224 : PySem.W.isFn K (.ref f1224) = true)
    (l1224 : K.lookup f1224 = some ⟨oc1224, od1224, .func (PySem.W.fnOf "__getitem__" "Sum.__getitem__" (defArgs (topM 11 4)) (defBody (topM 11 4)) (defScope (topM 11 4)) .none kV1224 dc1224 pm1224 an1224 cd1224 ct1224), sl1224⟩)
    (c1224 : PySem.W.codeIn K cd1224 "Sum.__getitem__" = true)
    (k1224 : PySem.W.keepIn K (.ref f1224) = true)
    {oc1225 kV1225 dc1225 pm1225 cd1225 ct1225 : Value} {od1225 an1225 : Option Addr} {sl1225 : Array (Option Value)} {f1225 : Addr}
    (at1225 : PySem.W.findIn K (.ref f11) (PySem.dunder (Operator.Add).info.2) = some (some (.ref f1225)))
    (fn1225 : PySem.W.isFn K (.ref f1225) = true)
    (l1225 : K.lookup f1225 = some ⟨oc1225, od1225, .func (PySem.W.fnOf "__add__" "Sum.__add__" (defArgs (topM 11 5)) (defBody (topM 11 5)) (defScope (topM 11 5)) .none kV1225 dc1225 pm1225 an1225 cd1225 ct1225), sl1225⟩)
    (c1225 : PySem.W.codeIn K cd1225 "Sum.__add__" = true)
    (k1225 : PySem.W.keepIn K (.ref f1225) = true)
    {oc1226 kV1226 dc1226 pm1226 cd1226 ct1226 : Value} {od1226 an1226 : Option Addr} {sl1226 : Array (Option Value)} {f1226 : Addr}
    (at1226 : PySem.W.findIn K (.ref f11) "__neg__" = some (some (.ref f1226)))
    (fn1226 : PySem.W.isFn K (.ref f1226) = true)
    (l1226 : K.lookup f1226 = some ⟨oc1226, od1226, .func (PySem.W.fnOf "__neg__" "Sum.__neg__" (defArgs (topM 11 6)) (defBody (topM 11 6)) (defScope (topM 11 6)) .none kV1226 dc1226 pm1226 an1226 cd1226 ct1226), sl1226⟩)
    (c1226 : PySem.W.codeIn K cd1226 "Sum.__neg__" = true)
    (k1226 : PySem.W.keepIn K (.ref f1226) = true)
    {oc1227 kV1227 dc1227 pm1227 cd1227 ct1227 : Value} {od1227 an1227 : Option Addr} {sl1227 : Array (Option Value)} {f1227 : Addr}
    (at1227 : PySem.W.findIn K (.ref f11) (PySem.dunder (Operator.Sub).info.2) = some (some (.ref f1227)))
    (fn1227 : PySem.W.isFn K (.ref f1227) = true)
    (l1227 : K.lookup f1227 = some ⟨oc1227, od1227, .func (PySem.W.fnOf "__sub__" "Sum.__sub__" (defArgs (topM 11 7)) (defBody (topM 11 7)) (defScope (topM 11 7)) .none kV1227 dc1227 pm1227 an1227 cd1227 ct1227), sl1227⟩)
    (c1227 : PySem.W.codeIn K cd1227 "Sum.__sub__" = true)
    (k1227 : PySem.W.keepIn K (.ref f1227) = true)
    {oc1228 kV1228 dc1228 pm1228 cd1228 ct1228 : Value} {od1228 an1228 : Option Addr} {sl1228 : Array (Option Value)} {f1228 : Addr}
    (at1228 : PySem.W.findIn K (.ref f11) (PySem.dunder (Operator.Mult).info.2) = some (some (.ref f1228)))
    (fn1228 : PySem.W.isFn K (.ref f1228) = true)
    (l1228 : K.lookup f1228 = some ⟨oc1228, od1228, .func (PySem.W.fnOf "__mul__" "Sum.__mul__" (defArgs (topM 11 8)) (defBody (topM 11 8)) (defScope (topM 11 8)) .none kV1228 dc1228 pm1228 an1228 cd1228 ct1228), sl1228⟩)
    (c1228 : PySem.W.codeIn K cd1228 "Sum.__mul__" = true)
    (k1228 : PySem.W.keepIn K (.ref f1228) = true)
    {oc1229 kV1229 dc1229 pm1229 cd1229 ct1229 : Value} {od1229 an1229 : Option Addr} {sl1229 : Array (Option Value)} {f1229 : Addr}
    (at1229 : PySem.W.findIn K (.ref f11) (PySem.dunderR (Operator.Mult).info.2) = some (some (.ref f1229)))
    (fn1229 : PySem.W.isFn K (.ref f1229) = true)
    (l1229 : K.lookup f1229 = some ⟨oc1229, od1229, .func (PySem.W.fnOf "__rmul__" "Sum.__rmul__" (defArgs (topM 11 9)) (defBody (topM 11 9)) (defScope (topM 11 9)) .none kV1229 dc1229 pm1229 an1229 cd1229 ct1229), sl1229⟩)
    (c1229 : PySem.W.codeIn K cd1229 "Sum.__rmul__" = true)
    (k1229 : PySem.W.keepIn K (.ref f1229) = true)
    {oc1230 kV1230 dc1230 pm1230 cd1230 ct1230 : Value} {od1230 an1230 : Option Addr} {sl1230 : Array (Option Value)} {f1230 : Addr}
    (at1230 : PySem.W.findIn K (.ref f11) "at" = some (some (.ref f1230)))
    (fn1230 : PySem.W.isFn K (.ref f1230) = true)
    (l1230 : K.lookup f1230 = some ⟨oc1230, od1230, .func (PySem.W.fnOf "at" "Sum.at" (defArgs (topM 11 10)) (defBody (topM 11 10)) (defScope (topM 11 10)) .none kV1230 dc1230 pm1230 an1230 cd1230 ct1230), sl1230⟩)
    (c1230 : PySem.W.codeIn K cd1230 "Sum.at" = true)
    (k1230 : PySem.W.keepIn K (.ref f1230) = true)
    {oc1231 kV1231 dc1231 pm1231 cd1231 ct1231 : Value} {od1231 an1231 : Option Addr} {sl1231 : Array (Option Value)} {f1231 : Addr}
    (at1231 : PySem.W.findIn K (.ref f11) "renamed" = some (some (.ref f1231)))
    (fn1231 : PySem.W.isFn K (.ref f1231) = true)
    (l1231 : K.lookup f1231 = some ⟨oc1231, od1231, .func (PySem.W.fnOf "renamed" "Sum.renamed" (defArgs (topM 11 11)) (defBody (topM 11 11)) (defScope (topM 11 11)) .none kV1231 dc1231 pm1231 an1231 cd1231 ct1231), sl1231⟩)
    (c1231 : PySem.W.codeIn K cd1231 "Sum.renamed" = true)
    (k1231 : PySem.W.keepIn K (.ref f1231) = true)
    {br11_Mult_int : Addr}    {bo11_Mult_int bq11_Mult_int : Option Value}
    (b1_11_Mult_int : PySem.W.findIn K (.ref f11) (PySem.dunderR (Operator.Mult).info.2) = some (some (.ref br11_Mult_int)))
    (b2_11_Mult_int : PySem.W.findIn K (.type "int") (PySem.dunder (Operator.Mult).info.2) = some bo11_Mult_int)
    (b3_11_Mult_int : PySem.W.findIn K (.type "int") (PySem.dunderR (Operator.Mult).info.2) = some bq11_Mult_int)
    (b4_11_Mult_int : PySem.W.subIn K (.type "int") (.ref f11) = some false)
    {ro11 rq11 : Option Value}
    (r2_11 : PySem.W.findIn K (.type "int") (PySem.dunder (Operator.Mult).info.2) = some ro11)
    (r3_11 : PySem.W.findIn K (.type "int") (PySem.dunderR (Operator.Mult).info.2) = some rq11)
    (r4_11 : PySem.W.subIn K (.ref f11) (.type "int") = some false)
    {oc2 kV2 dc2 pm2 cd2 ct2 : Value} {od2 an2 : Option Addr} {sl2 : Array (Option Value)} {f2 : Addr}
    {tk2_0 : Tok}
    {dt2 : Addr} {dd2 : Option Addr} {dn2 : Nat} {ds2 : Array (Option Value)}
    (a2 : PySem.W.nsIn K mainGlobals "ratio" = some (some (.ref f2))) (l2 : K.lookup f2 = some ⟨oc2, od2, .func (PySem.W.fnOf "ratio" "ratio" (defArgs (topS 2)) (defBody (topS 2)) (defScope (topS 2)) (.ref dt2) kV2 dc2 pm2 an2 cd2 ct2), sl2⟩) (c2 : PySem.W.codeIn K cd2 "ratio" = true) (k2 : PySem.W.keepIn K (.ref f2) = true)
    (lt2 : K.lookup dt2 = some ⟨.type "tuple", dd2, .seq #[.int 1 tk2_0] dn2, ds2⟩)
    {oc3 kV3 dc3 pm3 cd3 ct3 : Value} {od3 an3 : Option Addr} {sl3 : Array (Option Value)} {f3 : Addr}
    (a3 : PySem.W.nsIn K mainGlobals "total" = some (some (.ref f3))) (l3 : K.lookup f3 = some ⟨oc3, od3, .func (PySem.W.fnOf "total" "total" (defArgs (topS 3)) (defBody (topS 3)) (defScope (topS 3)) .none kV3 dc3 pm3 an3 cd3 ct3), sl3⟩) (c3 : PySem.W.codeIn K cd3 "total" = true) (k3 : PySem.W.keepIn K (.ref f3) = true)
    {oc4 kV4 dc4 pm4 cd4 ct4 : Value} {od4 an4 : Option Addr} {sl4 : Array (Option Value)} {f4 : Addr}
    (a4 : PySem.W.nsIn K mainGlobals "times" = some (some (.ref f4))) (l4 : K.lookup f4 = some ⟨oc4, od4, .func (PySem.W.fnOf "times" "times" (defArgs (topS 4)) (defBody (topS 4)) (defScope (topS 4)) .none kV4 dc4 pm4 an4 cd4 ct4), sl4⟩) (c4 : PySem.W.codeIn K cd4 "times" = true) (k4 : PySem.W.keepIn K (.ref f4) = true)
    {oc5 kV5 dc5 pm5 cd5 ct5 : Value} {od5 an5 : Option Addr} {sl5 : Array (Option Value)} {f5 : Addr}
    (a5 : PySem.W.nsIn K mainGlobals "quotient" = some (some (.ref f5))) (l5 : K.lookup f5 = some ⟨oc5, od5, .func (PySem.W.fnOf "quotient" "quotient" (defArgs (topS 5)) (defBody (topS 5)) (defScope (topS 5)) .none kV5 dc5 pm5 an5 cd5 ct5), sl5⟩) (c5 : PySem.W.codeIn K cd5 "quotient" = true) (k5 : PySem.W.keepIn K (.ref f5) = true)
    {oc6 kV6 dc6 pm6 cd6 ct6 : Value} {od6 an6 : Option Addr} {sl6 : Array (Option Value)} {f6 : Addr}
    (a6 : PySem.W.nsIn K mainGlobals "is_below" = some (some (.ref f6))) (l6 : K.lookup f6 = some ⟨oc6, od6, .func (PySem.W.fnOf "is_below" "is_below" (defArgs (topS 6)) (defBody (topS 6)) (defScope (topS 6)) .none kV6 dc6 pm6 an6 cd6 ct6), sl6⟩) (c6 : PySem.W.codeIn K cd6 "is_below" = true) (k6 : PySem.W.keepIn K (.ref f6) = true)
    {oc7 kV7 dc7 pm7 cd7 ct7 : Value} {od7 an7 : Option Addr} {sl7 : Array (Option Value)} {f7 : Addr}
    (a7 : PySem.W.nsIn K mainGlobals "ratio_at" = some (some (.ref f7))) (l7 : K.lookup f7 = some ⟨oc7, od7, .func (PySem.W.fnOf "ratio_at" "ratio_at" (defArgs (topS 7)) (defBody (topS 7)) (defScope (topS 7)) .none kV7 dc7 pm7 an7 cd7 ct7), sl7⟩) (c7 : PySem.W.codeIn K cd7 "ratio_at" = true) (k7 : PySem.W.keepIn K (.ref f7) = true)
    {oc9 kV9 dc9 pm9 cd9 ct9 : Value} {od9 an9 : Option Addr} {sl9 : Array (Option Value)} {f9 : Addr}
    (a9 : PySem.W.nsIn K mainGlobals "collected" = some (some (.ref f9))) (l9 : K.lookup f9 = some ⟨oc9, od9, .func (PySem.W.fnOf "collected" "collected" (defArgs (topS 9)) (defBody (topS 9)) (defScope (topS 9)) .none kV9 dc9 pm9 an9 cd9 ct9), sl9⟩) (c9 : PySem.W.codeIn K cd9 "collected" = true) (k9 : PySem.W.keepIn K (.ref f9) = true)
    {oc10 kV10 dc10 pm10 cd10 ct10 : Value} {od10 an10 : Option Addr} {sl10 : Array (Option Value)} {f10 : Addr}
    (a10 : PySem.W.nsIn K mainGlobals "is_terms" = some (some (.ref f10))) (l10 : K.lookup f10 = some ⟨oc10, od10, .func (PySem.W.fnOf "is_terms" "is_terms" (defArgs (topS 10)) (defBody (topS 10)) (defScope (topS 10)) .none kV10 dc10 pm10 an10 cd10 ct10), sl10⟩) (c10 : PySem.W.codeIn K cd10 "is_terms" = true) (k10 : PySem.W.keepIn K (.ref f10) = true)
    {oc13 kV13 dc13 pm13 cd13 ct13 : Value} {od13 an13 : Option Addr} {sl13 : Array (Option Value)} {f13 : Addr}
    (a13 : PySem.W.nsIn K mainGlobals "_law_source" = some (some (.ref f13))) (l13 : K.lookup f13 = some ⟨oc13, od13, .func (PySem.W.fnOf "_law_source" "_law_source" (defArgs (topS 13)) (defBody (topS 13)) (defScope (topS 13)) .none kV13 dc13 pm13 an13 cd13 ct13), sl13⟩) (c13 : PySem.W.codeIn K cd13 "_law_source" = true) (k13 : PySem.W.keepIn K (.ref f13) = true)
    {oc14 kV14 dc14 pm14 cd14 ct14 : Value} {od14 an14 : Option Addr} {sl14 : Array (Option Value)} {f14 : Addr}
    (a14 : PySem.W.nsIn K mainGlobals "_law_draw" = some (some (.ref f14))) (l14 : K.lookup f14 = some ⟨oc14, od14, .func (PySem.W.fnOf "_law_draw" "_law_draw" (defArgs (topS 14)) (defBody (topS 14)) (defScope (topS 14)) .none kV14 dc14 pm14 an14 cd14 ct14), sl14⟩) (c14 : PySem.W.codeIn K cd14 "_law_draw" = true) (k14 : PySem.W.keepIn K (.ref f14) = true)
    {oc15 kV15 dc15 pm15 cd15 ct15 : Value} {od15 an15 : Option Addr} {sl15 : Array (Option Value)} {f15 : Addr}
    (a15 : PySem.W.nsIn K mainGlobals "_law_size" = some (some (.ref f15))) (l15 : K.lookup f15 = some ⟨oc15, od15, .func (PySem.W.fnOf "_law_size" "_law_size" (defArgs (topS 15)) (defBody (topS 15)) (defScope (topS 15)) .none kV15 dc15 pm15 an15 cd15 ct15), sl15⟩) (c15 : PySem.W.codeIn K cd15 "_law_size" = true) (k15 : PySem.W.keepIn K (.ref f15) = true)
    {oc16 kV16 dc16 pm16 cd16 ct16 : Value} {od16 an16 : Option Addr} {sl16 : Array (Option Value)} {f16 : Addr}
    (a16 : PySem.W.nsIn K mainGlobals "_law_number" = some (some (.ref f16))) (l16 : K.lookup f16 = some ⟨oc16, od16, .func (PySem.W.fnOf "_law_number" "_law_number" (defArgs (topS 16)) (defBody (topS 16)) (defScope (topS 16)) .none kV16 dc16 pm16 an16 cd16 ct16), sl16⟩) (c16 : PySem.W.codeIn K cd16 "_law_number" = true) (k16 : PySem.W.keepIn K (.ref f16) = true)
    {oc17 kV17 dc17 pm17 cd17 ct17 : Value} {od17 an17 : Option Addr} {sl17 : Array (Option Value)} {f17 : Addr}
    (a17 : PySem.W.nsIn K mainGlobals "_law_shared" = some (some (.ref f17))) (l17 : K.lookup f17 = some ⟨oc17, od17, .func (PySem.W.fnOf "_law_shared" "_law_shared" (defArgs (topS 17)) (defBody (topS 17)) (defScope (topS 17)) .none kV17 dc17 pm17 an17 cd17 ct17), sl17⟩) (c17 : PySem.W.codeIn K cd17 "_law_shared" = true) (k17 : PySem.W.keepIn K (.ref f17) = true)
    {oc18 kV18 dc18 pm18 cd18 ct18 : Value} {od18 an18 : Option Addr} {sl18 : Array (Option Value)} {f18 : Addr}
    (a18 : PySem.W.nsIn K mainGlobals "_law_lowest" = some (some (.ref f18))) (l18 : K.lookup f18 = some ⟨oc18, od18, .func (PySem.W.fnOf "_law_lowest" "_law_lowest" (defArgs (topS 18)) (defBody (topS 18)) (defScope (topS 18)) .none kV18 dc18 pm18 an18 cd18 ct18), sl18⟩) (c18 : PySem.W.codeIn K cd18 "_law_lowest" = true) (k18 : PySem.W.keepIn K (.ref f18) = true)
    {oc19 kV19 dc19 pm19 cd19 ct19 : Value} {od19 an19 : Option Addr} {sl19 : Array (Option Value)} {f19 : Addr}
    (a19 : PySem.W.nsIn K mainGlobals "_law_ratio" = some (some (.ref f19))) (l19 : K.lookup f19 = some ⟨oc19, od19, .func (PySem.W.fnOf "_law_ratio" "_law_ratio" (defArgs (topS 19)) (defBody (topS 19)) (defScope (topS 19)) .none kV19 dc19 pm19 an19 cd19 ct19), sl19⟩) (c19 : PySem.W.codeIn K cd19 "_law_ratio" = true) (k19 : PySem.W.keepIn K (.ref f19) = true)
    {oc20 kV20 dc20 pm20 cd20 ct20 : Value} {od20 an20 : Option Addr} {sl20 : Array (Option Value)} {f20 : Addr}
    (a20 : PySem.W.nsIn K mainGlobals "_law_is" = some (some (.ref f20))) (l20 : K.lookup f20 = some ⟨oc20, od20, .func (PySem.W.fnOf "_law_is" "_law_is" (defArgs (topS 20)) (defBody (topS 20)) (defScope (topS 20)) .none kV20 dc20 pm20 an20 cd20 ct20), sl20⟩) (c20 : PySem.W.codeIn K cd20 "_law_is" = true) (k20 : PySem.W.keepIn K (.ref f20) = true)
    {oc21 kV21 dc21 pm21 cd21 ct21 : Value} {od21 an21 : Option Addr} {sl21 : Array (Option Value)} {f21 : Addr}
    (a21 : PySem.W.nsIn K mainGlobals "_law_added" = some (some (.ref f21))) (l21 : K.lookup f21 = some ⟨oc21, od21, .func (PySem.W.fnOf "_law_added" "_law_added" (defArgs (topS 21)) (defBody (topS 21)) (defScope (topS 21)) .none kV21 dc21 pm21 an21 cd21 ct21), sl21⟩) (c21 : PySem.W.codeIn K cd21 "_law_added" = true) (k21 : PySem.W.keepIn K (.ref f21) = true)
    {oc22 kV22 dc22 pm22 cd22 ct22 : Value} {od22 an22 : Option Addr} {sl22 : Array (Option Value)} {f22 : Addr}
    (a22 : PySem.W.nsIn K mainGlobals "_law_total" = some (some (.ref f22))) (l22 : K.lookup f22 = some ⟨oc22, od22, .func (PySem.W.fnOf "_law_total" "_law_total" (defArgs (topS 22)) (defBody (topS 22)) (defScope (topS 22)) .none kV22 dc22 pm22 an22 cd22 ct22), sl22⟩) (c22 : PySem.W.codeIn K cd22 "_law_total" = true) (k22 : PySem.W.keepIn K (.ref f22) = true)
    {oc23 kV23 dc23 pm23 cd23 ct23 : Value} {od23 an23 : Option Addr} {sl23 : Array (Option Value)} {f23 : Addr}
    (a23 : PySem.W.nsIn K mainGlobals "_law_ratios_right" = some (some (.ref f23))) (l23 : K.lookup f23 = some ⟨oc23, od23, .func (PySem.W.fnOf "_law_ratios_right" "_law_ratios_right" (defArgs (topS 23)) (defBody (topS 23)) (defScope (topS 23)) .none kV23 dc23 pm23 an23 cd23 ct23), sl23⟩) (c23 : PySem.W.codeIn K cd23 "_law_ratios_right" = true) (k23 : PySem.W.keepIn K (.ref f23) = true)
    {oc24 kV24 dc24 pm24 cd24 ct24 : Value} {od24 an24 : Option Addr} {sl24 : Array (Option Value)} {f24 : Addr}
    (a24 : PySem.W.nsIn K mainGlobals "_law_pairs" = some (some (.ref f24))) (l24 : K.lookup f24 = some ⟨oc24, od24, .func (PySem.W.fnOf "_law_pairs" "_law_pairs" (defArgs (topS 24)) (defBody (topS 24)) (defScope (topS 24)) .none kV24 dc24 pm24 an24 cd24 ct24), sl24⟩) (c24 : PySem.W.codeIn K cd24 "_law_pairs" = true) (k24 : PySem.W.keepIn K (.ref f24) = true)
    {oc25 kV25 dc25 pm25 cd25 ct25 : Value} {od25 an25 : Option Addr} {sl25 : Array (Option Value)} {f25 : Addr}
    (a25 : PySem.W.nsIn K mainGlobals "_law_terms" = some (some (.ref f25))) (l25 : K.lookup f25 = some ⟨oc25, od25, .func (PySem.W.fnOf "_law_terms" "_law_terms" (defArgs (topS 25)) (defBody (topS 25)) (defScope (topS 25)) .none kV25 dc25 pm25 an25 cd25 ct25), sl25⟩) (c25 : PySem.W.codeIn K cd25 "_law_terms" = true) (k25 : PySem.W.keepIn K (.ref f25) = true)
    {oc26 kV26 dc26 pm26 cd26 ct26 : Value} {od26 an26 : Option Addr} {sl26 : Array (Option Value)} {f26 : Addr}
    (a26 : PySem.W.nsIn K mainGlobals "_law_same" = some (some (.ref f26))) (l26 : K.lookup f26 = some ⟨oc26, od26, .func (PySem.W.fnOf "_law_same" "_law_same" (defArgs (topS 26)) (defBody (topS 26)) (defScope (topS 26)) .none kV26 dc26 pm26 an26 cd26 ct26), sl26⟩) (c26 : PySem.W.codeIn K cd26 "_law_same" = true) (k26 : PySem.W.keepIn K (.ref f26) = true)
    {oc27 kV27 dc27 pm27 cd27 ct27 : Value} {od27 an27 : Option Addr} {sl27 : Array (Option Value)} {f27 : Addr}
    (a27 : PySem.W.nsIn K mainGlobals "_law_scaled" = some (some (.ref f27))) (l27 : K.lookup f27 = some ⟨oc27, od27, .func (PySem.W.fnOf "_law_scaled" "_law_scaled" (defArgs (topS 27)) (defBody (topS 27)) (defScope (topS 27)) .none kV27 dc27 pm27 an27 cd27 ct27), sl27⟩) (c27 : PySem.W.codeIn K cd27 "_law_scaled" = true) (k27 : PySem.W.keepIn K (.ref f27) = true)
    {oc28 kV28 dc28 pm28 cd28 ct28 : Value} {od28 an28 : Option Addr} {sl28 : Array (Option Value)} {f28 : Addr}
    (a28 : PySem.W.nsIn K mainGlobals "_law_signs_right" = some (some (.ref f28))) (l28 : K.lookup f28 = some ⟨oc28, od28, .func (PySem.W.fnOf "_law_signs_right" "_law_signs_right" (defArgs (topS 28)) (defBody (topS 28)) (defScope (topS 28)) .none kV28 dc28 pm28 an28 cd28 ct28), sl28⟩) (c28 : PySem.W.codeIn K cd28 "_law_signs_right" = true) (k28 : PySem.W.keepIn K (.ref f28) = true)
    {oc29 kV29 dc29 pm29 cd29 ct29 : Value} {od29 an29 : Option Addr} {sl29 : Array (Option Value)} {f29 : Addr}
    (a29 : PySem.W.nsIn K mainGlobals "_law_values_right" = some (some (.ref f29))) (l29 : K.lookup f29 = some ⟨oc29, od29, .func (PySem.W.fnOf "_law_values_right" "_law_values_right" (defArgs (topS 29)) (defBody (topS 29)) (defScope (topS 29)) .none kV29 dc29 pm29 an29 cd29 ct29), sl29⟩) (c29 : PySem.W.codeIn K cd29 "_law_values_right" = true) (k29 : PySem.W.keepIn K (.ref f29) = true)
    {oc30 kV30 dc30 pm30 cd30 ct30 : Value} {od30 an30 : Option Addr} {sl30 : Array (Option Value)} {f30 : Addr}
    (a30 : PySem.W.nsIn K mainGlobals "_law_names_right" = some (some (.ref f30))) (l30 : K.lookup f30 = some ⟨oc30, od30, .func (PySem.W.fnOf "_law_names_right" "_law_names_right" (defArgs (topS 30)) (defBody (topS 30)) (defScope (topS 30)) .none kV30 dc30 pm30 an30 cd30 ct30), sl30⟩) (c30 : PySem.W.codeIn K cd30 "_law_names_right" = true) (k30 : PySem.W.keepIn K (.ref f30) = true)
    {oc31 kV31 dc31 pm31 cd31 ct31 : Value} {od31 an31 : Option Addr} {sl31 : Array (Option Value)} {f31 : Addr}
    (a31 : PySem.W.nsIn K mainGlobals "_law_form_right" = some (some (.ref f31))) (l31 : K.lookup f31 = some ⟨oc31, od31, .func (PySem.W.fnOf "_law_form_right" "_law_form_right" (defArgs (topS 31)) (defBody (topS 31)) (defScope (topS 31)) .none kV31 dc31 pm31 an31 cd31 ct31), sl31⟩) (c31 : PySem.W.codeIn K cd31 "_law_form_right" = true) (k31 : PySem.W.keepIn K (.ref f31) = true)
    {oc32 kV32 dc32 pm32 cd32 ct32 : Value} {od32 an32 : Option Addr} {sl32 : Array (Option Value)} {f32 : Addr}
    (a32 : PySem.W.nsIn K mainGlobals "law" = some (some (.ref f32))) (l32 : K.lookup f32 = some ⟨oc32, od32, .func (PySem.W.fnOf "law" "law" (defArgs (topS 32)) (defBody (topS 32)) (defScope (topS 32)) .none kV32 dc32 pm32 an32 cd32 ct32), sl32⟩) (c32 : PySem.W.codeIn K cd32 "law" = true) (k32 : PySem.W.keepIn K (.ref f32) = true)
    (z_len : PySem.W.nsIn K mainGlobals "len" = some none)
    (z_int : PySem.W.nsIn K mainGlobals "int" = some none)
    (z_bool : PySem.W.nsIn K mainGlobals "bool" = some none)
    (z_list : PySem.W.nsIn K mainGlobals "list" = some none)
    (z_tuple : PySem.W.nsIn K mainGlobals "tuple" = some none)
    (z_range : PySem.W.nsIn K mainGlobals "range" = some none)
    (z_sorted : PySem.W.nsIn K mainGlobals "sorted" = some none)
    (z_isinstance : PySem.W.nsIn K mainGlobals "isinstance" = some none)
    (z_abs : PySem.W.nsIn K mainGlobals "abs" = some none)
    (z_sum : PySem.W.nsIn K mainGlobals "sum" = some none)
    (z_iter : PySem.W.nsIn K mainGlobals "iter" = some none)
    (i_gcd : PySem.W.nsIn K mainGlobals "gcd" = some (some (.builtin "math.gcd")))
    : ∃ fd : FuncData, (∀ (s : Shared) (v : Value), BindsTo s fd ⟨[v], []⟩ [("_law_script", v)]) ∧ ∀ base : Heap, K.In base → base.Ns mainGlobals mg → FnOk l.prog w K mg base CX0 7 fa fd ["_law_script"] (sp_law K) := by
  have e := hfa.symm.trans (PySem.W.mg_of X G a32)
  cases e
  let A : Nat → Addr := fun i => match i with
    | 2 => f2
    | 3 => f3
    | 4 => f4
    | 5 => f5
    | 6 => f6
    | 7 => f7
    | 9 => f9
    | 10 => f10
    | 13 => f13
    | 14 => f14
    | 15 => f15
    | 16 => f16
    | 17 => f17
    | 18 => f18
    | 19 => f19
    | 20 => f20
    | 21 => f21
    | 22 => f22
    | 23 => f23
    | 24 => f24
    | 25 => f25
    | 26 => f26
    | 27 => f27
    | 28 => f28
    | 29 => f29
    | 30 => f30
    | 31 => f31
    | 32 => fa
    | 11 => f11
    | 1220 => f1220
    | 8220 => et1220_0
    | 1221 => f1221
    | 1222 => f1222
    | 1223 => f1223
    | 1224 => f1224
    | 1225 => f1225
    | 1226 => f1226
    | 1227 => f1227
    | 1228 => f1228
    | 1229 => f1229
    | 1230 => f1230
    | 1231 => f1231
    | _ => 0
  let D : Nat → FuncData := fun i => match i with
    | 1220 => PySem.W.fnOf "__init__" "Sum.__init__" (defArgs (topM 11 0)) (defBody (topM 11 0)) (defScope (topM 11 0)) (.ref dt1220) kV1220 dc1220 pm1220 an1220 cd1220 ct1220
    | 1221 => PySem.W.fnOf "__len__" "Sum.__len__" (defArgs (topM 11 1)) (defBody (topM 11 1)) (defScope (topM 11 1)) .none kV1221 dc1221 pm1221 an1221 cd1221 ct1221
    | 1222 => PySem.W.fnOf "__iter__" "Sum.__iter__" (defArgs (topM 11 2)) (defBody (topM 11 2)) (defScope (topM 11 2)) .none kV1222 dc1222 pm1222 an1222 cd1222 ct1222
    | 1223 => PySem.W.fnOf "__contains__" "Sum.__contains__" (defArgs (topM 11 3)) (defBody (topM 11 3)) (defScope (topM 11 3)) .none kV1223 dc1223 pm1223 an1223 cd1223 ct1223
    | 1224 => PySem.W.fnOf "__getitem__" "Sum.__getitem__" (defArgs (topM 11 4)) (defBody (topM 11 4)) (defScope (topM 11 4)) .none kV1224 dc1224 pm1224 an1224 cd1224 ct1224
    | 1225 => PySem.W.fnOf "__add__" "Sum.__add__" (defArgs (topM 11 5)) (defBody (topM 11 5)) (defScope (topM 11 5)) .none kV1225 dc1225 pm1225 an1225 cd1225 ct1225
    | 1226 => PySem.W.fnOf "__neg__" "Sum.__neg__" (defArgs (topM 11 6)) (defBody (topM 11 6)) (defScope (topM 11 6)) .none kV1226 dc1226 pm1226 an1226 cd1226 ct1226
    | 1227 => PySem.W.fnOf "__sub__" "Sum.__sub__" (defArgs (topM 11 7)) (defBody (topM 11 7)) (defScope (topM 11 7)) .none kV1227 dc1227 pm1227 an1227 cd1227 ct1227
    | 1228 => PySem.W.fnOf "__mul__" "Sum.__mul__" (defArgs (topM 11 8)) (defBody (topM 11 8)) (defScope (topM 11 8)) .none kV1228 dc1228 pm1228 an1228 cd1228 ct1228
    | 1229 => PySem.W.fnOf "__rmul__" "Sum.__rmul__" (defArgs (topM 11 9)) (defBody (topM 11 9)) (defScope (topM 11 9)) .none kV1229 dc1229 pm1229 an1229 cd1229 ct1229
    | 1230 => PySem.W.fnOf "at" "Sum.at" (defArgs (topM 11 10)) (defBody (topM 11 10)) (defScope (topM 11 10)) .none kV1230 dc1230 pm1230 an1230 cd1230 ct1230
    | 1231 => PySem.W.fnOf "renamed" "Sum.renamed" (defArgs (topM 11 11)) (defBody (topM 11 11)) (defScope (topM 11 11)) .none kV1231 dc1231 pm1231 an1231 cd1231 ct1231
    | 2 => PySem.W.fnOf "ratio" "ratio" (defArgs (topS 2)) (defBody (topS 2)) (defScope (topS 2)) (.ref dt2) kV2 dc2 pm2 an2 cd2 ct2
    | 3 => PySem.W.fnOf "total" "total" (defArgs (topS 3)) (defBody (topS 3)) (defScope (topS 3)) .none kV3 dc3 pm3 an3 cd3 ct3
    | 4 => PySem.W.fnOf "times" "times" (defArgs (topS 4)) (defBody (topS 4)) (defScope (topS 4)) .none kV4 dc4 pm4 an4 cd4 ct4
    | 5 => PySem.W.fnOf "quotient" "quotient" (defArgs (topS 5)) (defBody (topS 5)) (defScope (topS 5)) .none kV5 dc5 pm5 an5 cd5 ct5
    | 6 => PySem.W.fnOf "is_below" "is_below" (defArgs (topS 6)) (defBody (topS 6)) (defScope (topS 6)) .none kV6 dc6 pm6 an6 cd6 ct6
    | 7 => PySem.W.fnOf "ratio_at" "ratio_at" (defArgs (topS 7)) (defBody (topS 7)) (defScope (topS 7)) .none kV7 dc7 pm7 an7 cd7 ct7
    | 9 => PySem.W.fnOf "collected" "collected" (defArgs (topS 9)) (defBody (topS 9)) (defScope (topS 9)) .none kV9 dc9 pm9 an9 cd9 ct9
    | 10 => PySem.W.fnOf "is_terms" "is_terms" (defArgs (topS 10)) (defBody (topS 10)) (defScope (topS 10)) .none kV10 dc10 pm10 an10 cd10 ct10
    | 13 => PySem.W.fnOf "_law_source" "_law_source" (defArgs (topS 13)) (defBody (topS 13)) (defScope (topS 13)) .none kV13 dc13 pm13 an13 cd13 ct13
    | 14 => PySem.W.fnOf "_law_draw" "_law_draw" (defArgs (topS 14)) (defBody (topS 14)) (defScope (topS 14)) .none kV14 dc14 pm14 an14 cd14 ct14
    | 15 => PySem.W.fnOf "_law_size" "_law_size" (defArgs (topS 15)) (defBody (topS 15)) (defScope (topS 15)) .none kV15 dc15 pm15 an15 cd15 ct15
    | 16 => PySem.W.fnOf "_law_number" "_law_number" (defArgs (topS 16)) (defBody (topS 16)) (defScope (topS 16)) .none kV16 dc16 pm16 an16 cd16 ct16
    | 17 => PySem.W.fnOf "_law_shared" "_law_shared" (defArgs (topS 17)) (defBody (topS 17)) (defScope (topS 17)) .none kV17 dc17 pm17 an17 cd17 ct17
    | 18 => PySem.W.fnOf "_law_lowest" "_law_lowest" (defArgs (topS 18)) (defBody (topS 18)) (defScope (topS 18)) .none kV18 dc18 pm18 an18 cd18 ct18
    | 19 => PySem.W.fnOf "_law_ratio" "_law_ratio" (defArgs (topS 19)) (defBody (topS 19)) (defScope (topS 19)) .none kV19 dc19 pm19 an19 cd19 ct19
    | 20 => PySem.W.fnOf "_law_is" "_law_is" (defArgs (topS 20)) (defBody (topS 20)) (defScope (topS 20)) .none kV20 dc20 pm20 an20 cd20 ct20
    | 21 => PySem.W.fnOf "_law_added" "_law_added" (defArgs (topS 21)) (defBody (topS 21)) (defScope (topS 21)) .none kV21 dc21 pm21 an21 cd21 ct21
    | 22 => PySem.W.fnOf "_law_total" "_law_total" (defArgs (topS 22)) (defBody (topS 22)) (defScope (topS 22)) .none kV22 dc22 pm22 an22 cd22 ct22
    | 23 => PySem.W.fnOf "_law_ratios_right" "_law_ratios_right" (defArgs (topS 23)) (defBody (topS 23)) (defScope (topS 23)) .none kV23 dc23 pm23 an23 cd23 ct23
    | 24 => PySem.W.fnOf "_law_pairs" "_law_pairs" (defArgs (topS 24)) (defBody (topS 24)) (defScope (topS 24)) .none kV24 dc24 pm24 an24 cd24 ct24
    | 25 => PySem.W.fnOf "_law_terms" "_law_terms" (defArgs (topS 25)) (defBody (topS 25)) (defScope (topS 25)) .none kV25 dc25 pm25 an25 cd25 ct25
    | 26 => PySem.W.fnOf "_law_same" "_law_same" (defArgs (topS 26)) (defBody (topS 26)) (defScope (topS 26)) .none kV26 dc26 pm26 an26 cd26 ct26
    | 27 => PySem.W.fnOf "_law_scaled" "_law_scaled" (defArgs (topS 27)) (defBody (topS 27)) (defScope (topS 27)) .none kV27 dc27 pm27 an27 cd27 ct27
    | 28 => PySem.W.fnOf "_law_signs_right" "_law_signs_right" (defArgs (topS 28)) (defBody (topS 28)) (defScope (topS 28)) .none kV28 dc28 pm28 an28 cd28 ct28
    | 29 => PySem.W.fnOf "_law_values_right" "_law_values_right" (defArgs (topS 29)) (defBody (topS 29)) (defScope (topS 29)) .none kV29 dc29 pm29 an29 cd29 ct29
    | 30 => PySem.W.fnOf "_law_names_right" "_law_names_right" (defArgs (topS 30)) (defBody (topS 30)) (defScope (topS 30)) .none kV30 dc30 pm30 an30 cd30 ct30
    | 31 => PySem.W.fnOf "_law_form_right" "_law_form_right" (defArgs (topS 31)) (defBody (topS 31)) (defScope (topS 31)) .none kV31 dc31 pm31 an31 cd31 ct31
    | 32 => PySem.W.fnOf "law" "law" (defArgs (topS 32)) (defBody (topS 32)) (defScope (topS 32)) .none kV32 dc32 pm32 an32 cd32 ct32
    | _ => PySem.W.fnOf "law" "law" (defArgs (topS 32)) (defBody (topS 32)) (defScope (topS 32)) .none kV32 dc32 pm32 an32 cd32 ct32
  have T : Txt K mg A D := {
    g_Sum := PySem.W.mg_of X G a11
    cl_Sum := ⟨pg11, hd11, po11, os11⟩
    cr_Sum := ⟨rd11, og11⟩
    sf_Sum := sf11
    n_Sum_terms := n11_terms
    mk_Sum := ⟨mk11, at1220, fn1220, kp11⟩
    F_Sum___init__ := ⟨⟨_, _, _, _, _, _, _, _, _, _, rfl, l1220, c1220, .inr ⟨by simp, dt1220, _, _, _, rfl, lt1220, rfl, (.cons (rvRef _) .nil)⟩, .inl rfl⟩, k1220⟩
    b_Sum___init__ := binds_full (FunD.binds1 (dvs := [.ref et1220_0]) (kws := []) (ps := ["self", "terms"]) ⟨⟨_, _, _, _, _, _, _, _, _, _, rfl, l1220, c1220, .inr ⟨by simp, dt1220, _, _, _, rfl, lt1220, rfl, (.cons (rvRef _) .nil)⟩, .inl rfl⟩, k1220⟩ 2 1 (by simp) rfl fun _ _ _ _ _ _ _ us its h1 h2 => match us, its, h1, h2 with | [_, _], [_], _, _ => ⟨_, rfl, rfl⟩)
    b1_Sum___init__ := FunD.binds1 (dvs := [.ref et1220_0]) (kws := []) (ps := ["self", "terms"]) ⟨⟨_, _, _, _, _, _, _, _, _, _, rfl, l1220, c1220, .inr ⟨by simp, dt1220, _, _, _, rfl, lt1220, rfl, (.cons (rvRef _) .nil)⟩, .inl rfl⟩, k1220⟩ 1 0 (by simp) rfl fun _ _ _ _ _ _ _ us its h1 h2 => match us, its, h1, h2 with | [_], [_], _, _ => ⟨_, rfl, rfl⟩
    d_Sum___init___0 := fun H => .inr ⟨_, _, _, le1220_0, rfl, rfl, (by show _ ≤ sizeLine; simp [sizeLine_eq]), .nil⟩
    M_Sum___init__ := ⟨at1220, fn1220, k1220⟩
    F_Sum___len__ := fun_mk (st := (topM 11 1)) l1221 c1221 k1221
    b_Sum___len__ := (fun_mk (st := (topM 11 1)) l1221 c1221 k1221).binds (ps := ["self"]) fun _ _ _ _ _ _ us hl => match us, hl with | [_], _ => rfl
    M_Sum___len__ := ⟨at1221, fn1221, k1221⟩
    F_Sum___iter__ := fun_mk (st := (topM 11 2)) l1222 c1222 k1222
    b_Sum___iter__ := (fun_mk (st := (topM 11 2)) l1222 c1222 k1222).binds (ps := ["self"]) fun _ _ _ _ _ _ us hl => match us, hl with | [_], _ => rfl
    M_Sum___iter__ := ⟨at1222, fn1222, k1222⟩
    F_Sum___contains__ := fun_mk (st := (topM 11 3)) l1223 c1223 k1223
    b_Sum___contains__ := (fun_mk (st := (topM 11 3)) l1223 c1223 k1223).binds (ps := ["self", "name"]) fun _ _ _ _ _ _ us hl => match us, hl with | [_, _], _ => rfl
    M_Sum___contains__ := ⟨at1223, fn1223, k1223⟩
    F_Sum___getitem__ := fun_mk (st := (topM 11 4)) l1224 c1224 k1224
    b_Sum___getitem__ := (fun_mk (st := (topM 11 4)) l1224 c1224 k1224).binds (ps := ["self", "name"]) fun _ _ _ _ _ _ us hl => match us, hl with | [_, _], _ => rfl
    M_Sum___getitem__ := ⟨at1224, fn1224, k1224⟩
    F_Sum___add__ := fun_mk (st := (topM 11 5)) l1225 c1225 k1225
    b_Sum___add__ := (fun_mk (st := (topM 11 5)) l1225 c1225 k1225).binds (ps := ["self", "other"]) fun _ _ _ _ _ _ us hl => match us, hl with | [_, _], _ => rfl
    M_Sum___add__ := ⟨at1225, fn1225, k1225⟩
    F_Sum___neg__ := fun_mk (st := (topM 11 6)) l1226 c1226 k1226
    b_Sum___neg__ := (fun_mk (st := (topM 11 6)) l1226 c1226 k1226).binds (ps := ["self"]) fun _ _ _ _ _ _ us hl => match us, hl with | [_], _ => rfl
    M_Sum___neg__ := ⟨at1226, fn1226, k1226⟩
    F_Sum___sub__ := fun_mk (st := (topM 11 7)) l1227 c1227 k1227
    b_Sum___sub__ := (fun_mk (st := (topM 11 7)) l1227 c1227 k1227).binds (ps := ["self", "other"]) fun _ _ _ _ _ _ us hl => match us, hl with | [_, _], _ => rfl
    M_Sum___sub__ := ⟨at1227, fn1227, k1227⟩
    F_Sum___mul__ := fun_mk (st := (topM 11 8)) l1228 c1228 k1228
    b_Sum___mul__ := (fun_mk (st := (topM 11 8)) l1228 c1228 k1228).binds (ps := ["self", "factor"]) fun _ _ _ _ _ _ us hl => match us, hl with | [_, _], _ => rfl
    M_Sum___mul__ := ⟨at1228, fn1228, k1228⟩
    F_Sum___rmul__ := fun_mk (st := (topM 11 9)) l1229 c1229 k1229
    b_Sum___rmul__ := (fun_mk (st := (topM 11 9)) l1229 c1229 k1229).binds (ps := ["self", "factor"]) fun _ _ _ _ _ _ us hl => match us, hl with | [_, _], _ => rfl
    M_Sum___rmul__ := ⟨at1229, fn1229, k1229⟩
    F_Sum_at := fun_mk (st := (topM 11 10)) l1230 c1230 k1230
    b_Sum_at := (fun_mk (st := (topM 11 10)) l1230 c1230 k1230).binds (ps := ["self", "assignment"]) fun _ _ _ _ _ _ us hl => match us, hl with | [_, _], _ => rfl
    M_Sum_at := ⟨at1230, fn1230, k1230⟩
    F_Sum_renamed := fun_mk (st := (topM 11 11)) l1231 c1231 k1231
    b_Sum_renamed := (fun_mk (st := (topM 11 11)) l1231 c1231 k1231).binds (ps := ["self", "table"]) fun _ _ _ _ _ _ us hl => match us, hl with | [_, _], _ => rfl
    M_Sum_renamed := ⟨at1231, fn1231, k1231⟩
    B_Sum_Mult_int := ⟨sf11, ⟨_, b1_11_Mult_int, .inr ⟨_, rfl⟩⟩, ⟨_, b2_11_Mult_int⟩, ⟨_, b3_11_Mult_int⟩, b4_11_Mult_int⟩
    R_Sum := ⟨sf11, at1228, ⟨_, r2_11⟩, ⟨_, r3_11⟩, r4_11⟩
    F_ratio := ⟨⟨_, _, _, _, _, _, _, _, _, _, rfl, l2, c2, .inr ⟨by simp, dt2, _, _, _, rfl, lt2, rfl, (.cons (rvInt _ _) .nil)⟩, .inl rfl⟩, k2⟩
    g_ratio := PySem.W.mg_of X G a2
    b_ratio := binds_full (FunD.binds1 (dvs := [.int 1]) (kws := []) (ps := ["top", "bottom"]) ⟨⟨_, _, _, _, _, _, _, _, _, _, rfl, l2, c2, .inr ⟨by simp, dt2, _, _, _, rfl, lt2, rfl, (.cons (rvInt _ _) .nil)⟩, .inl rfl⟩, k2⟩ 2 1 (by simp) rfl fun _ _ _ _ _ _ _ us its h1 h2 => match us, its, h1, h2 with | [_, _], [_], _, _ => ⟨_, rfl, rfl⟩)
    b1_ratio := FunD.binds1 (dvs := [.int 1]) (kws := []) (ps := ["top", "bottom"]) ⟨⟨_, _, _, _, _, _, _, _, _, _, rfl, l2, c2, .inr ⟨by simp, dt2, _, _, _, rfl, lt2, rfl, (.cons (rvInt _ _) .nil)⟩, .inl rfl⟩, k2⟩ 1 0 (by simp) rfl fun _ _ _ _ _ _ _ us its h1 h2 => match us, its, h1, h2 with | [_], [_], _, _ => ⟨_, rfl, rfl⟩
    F_total := fun_mk (st := topS 3) l3 c3 k3
    g_total := PySem.W.mg_of X G a3
    F_times := fun_mk (st := topS 4) l4 c4 k4
    g_times := PySem.W.mg_of X G a4
    b_times := (fun_mk (st := topS 4) l4 c4 k4).binds (ps := ["first", "second"]) fun _ _ _ _ _ _ us hl => match us, hl with | [_, _], _ => rfl
    F_quotient := fun_mk (st := topS 5) l5 c5 k5
    g_quotient := PySem.W.mg_of X G a5
    b_quotient := (fun_mk (st := topS 5) l5 c5 k5).binds (ps := ["first", "second"]) fun _ _ _ _ _ _ us hl => match us, hl with | [_, _], _ => rfl
    F_is_below := fun_mk (st := topS 6) l6 c6 k6
    g_is_below := PySem.W.mg_of X G a6
    b_is_below := (fun_mk (st := topS 6) l6 c6 k6).binds (ps := ["first", "second"]) fun _ _ _ _ _ _ us hl => match us, hl with | [_, _], _ => rfl
    F_ratio_at := fun_mk (st := topS 7) l7 c7 k7
    g_ratio_at := PySem.W.mg_of X G a7
    b_ratio_at := (fun_mk (st := topS 7) l7 c7 k7).binds (ps := ["terms", "assignment"]) fun _ _ _ _ _ _ us hl => match us, hl with | [_, _], _ => rfl
    F_collected := fun_mk (st := topS 9) l9 c9 k9
    g_collected := PySem.W.mg_of X G a9
    b_collected := (fun_mk (st := topS 9) l9 c9 k9).binds (ps := ["terms"]) fun _ _ _ _ _ _ us hl => match us, hl with | [_], _ => rfl
    F_is_terms := fun_mk (st := topS 10) l10 c10 k10
    g_is_terms := PySem.W.mg_of X G a10
    b_is_terms := (fun_mk (st := topS 10) l10 c10 k10).binds (ps := ["terms"]) fun _ _ _ _ _ _ us hl => match us, hl with | [_], _ => rfl
    F__law_source := fun_mk (st := topS 13) l13 c13 k13
    g__law_source := PySem.W.mg_of X G a13
    b__law_source := (fun_mk (st := topS 13) l13 c13 k13).binds (ps := ["_law_script", "_law_k"]) fun _ _ _ _ _ _ us hl => match us, hl with | [_, _], _ => rfl
    F__law_draw := fun_mk (st := topS 14) l14 c14 k14
    g__law_draw := PySem.W.mg_of X G a14
    b__law_draw := (fun_mk (st := topS 14) l14 c14 k14).binds (ps := ["_law_source_here", "_law_limit"]) fun _ _ _ _ _ _ us hl => match us, hl with | [_, _], _ => rfl
    F__law_size := fun_mk (st := topS 15) l15 c15 k15
    g__law_size := PySem.W.mg_of X G a15
    b__law_size := (fun_mk (st := topS 15) l15 c15 k15).binds (ps := ["_law_source_here"]) fun _ _ _ _ _ _ us hl => match us, hl with | [_], _ => rfl
    F__law_number := fun_mk (st := topS 16) l16 c16 k16
    g__law_number := PySem.W.mg_of X G a16
    b__law_number := (fun_mk (st := topS 16) l16 c16 k16).binds (ps := ["_law_source_here"]) fun _ _ _ _ _ _ us hl => match us, hl with | [_], _ => rfl
    F__law_shared := fun_mk (st := topS 17) l17 c17 k17
    g__law_shared := PySem.W.mg_of X G a17
    b__law_shared := (fun_mk (st := topS 17) l17 c17 k17).binds (ps := ["_law_first", "_law_second"]) fun _ _ _ _ _ _ us hl => match us, hl with | [_, _], _ => rfl
    F__law_lowest := fun_mk (st := topS 18) l18 c18 k18
    g__law_lowest := PySem.W.mg_of X G a18
    b__law_lowest := (fun_mk (st := topS 18) l18 c18 k18).binds (ps := ["_law_top", "_law_bottom"]) fun _ _ _ _ _ _ us hl => match us, hl with | [_, _], _ => rfl
    F__law_ratio := fun_mk (st := topS 19) l19 c19 k19
    g__law_ratio := PySem.W.mg_of X G a19
    b__law_ratio := (fun_mk (st := topS 19) l19 c19 k19).binds (ps := ["_law_source_here"]) fun _ _ _ _ _ _ us hl => match us, hl with | [_], _ => rfl
    F__law_is := fun_mk (st := topS 20) l20 c20 k20
    g__law_is := PySem.W.mg_of X G a20
    b__law_is := (fun_mk (st := topS 20) l20 c20 k20).binds (ps := ["_law_actual", "_law_expected"]) fun _ _ _ _ _ _ us hl => match us, hl with | [_, _], _ => rfl
    F__law_added := fun_mk (st := topS 21) l21 c21 k21
    g__law_added := PySem.W.mg_of X G a21
    b__law_added := (fun_mk (st := topS 21) l21 c21 k21).binds (ps := ["_law_parts"]) fun _ _ _ _ _ _ us hl => match us, hl with | [_], _ => rfl
    F__law_total := fun_mk (st := topS 22) l22 c22 k22
    g__law_total := PySem.W.mg_of X G a22
    b__law_total := (fun_mk (st := topS 22) l22 c22 k22).binds (ps := ["_law_parts"]) fun _ _ _ _ _ _ us hl => match us, hl with | [_], _ => rfl
    F__law_ratios_right := fun_mk (st := topS 23) l23 c23 k23
    g__law_ratios_right := PySem.W.mg_of X G a23
    b__law_ratios_right := (fun_mk (st := topS 23) l23 c23 k23).binds (ps := ["_law_source_here"]) fun _ _ _ _ _ _ us hl => match us, hl with | [_], _ => rfl
    F__law_pairs := fun_mk (st := topS 24) l24 c24 k24
    g__law_pairs := PySem.W.mg_of X G a24
    b__law_pairs := (fun_mk (st := topS 24) l24 c24 k24).binds (ps := ["_law_source_here"]) fun _ _ _ _ _ _ us hl => match us, hl with | [_], _ => rfl
    F__law_terms := fun_mk (st := topS 25) l25 c25 k25
    g__law_terms := PySem.W.mg_of X G a25
    b__law_terms := (fun_mk (st := topS 25) l25 c25 k25).binds (ps := ["_law_pairs_here"]) fun _ _ _ _ _ _ us hl => match us, hl with | [_], _ => rfl
    F__law_same := fun_mk (st := topS 26) l26 c26 k26
    g__law_same := PySem.W.mg_of X G a26
    b__law_same := (fun_mk (st := topS 26) l26 c26 k26).binds (ps := ["_law_actual", "_law_pairs_here"]) fun _ _ _ _ _ _ us hl => match us, hl with | [_, _], _ => rfl
    F__law_scaled := fun_mk (st := topS 27) l27 c27 k27
    g__law_scaled := PySem.W.mg_of X G a27
    b__law_scaled := (fun_mk (st := topS 27) l27 c27 k27).binds (ps := ["_law_pairs_here", "_law_factor"]) fun _ _ _ _ _ _ us hl => match us, hl with | [_, _], _ => rfl
    F__law_signs_right := fun_mk (st := topS 28) l28 c28 k28
    g__law_signs_right := PySem.W.mg_of X G a28
    b__law_signs_right := (fun_mk (st := topS 28) l28 c28 k28).binds (ps := ["_law_left", "_law_right", "_law_factor"]) fun _ _ _ _ _ _ us hl => match us, hl with | [_, _, _], _ => rfl
    F__law_values_right := fun_mk (st := topS 29) l29 c29 k29
    g__law_values_right := PySem.W.mg_of X G a29
    b__law_values_right := (fun_mk (st := topS 29) l29 c29 k29).binds (ps := ["_law_source_here", "_law_pairs_here"]) fun _ _ _ _ _ _ us hl => match us, hl with | [_, _], _ => rfl
    F__law_names_right := fun_mk (st := topS 30) l30 c30 k30
    g__law_names_right := PySem.W.mg_of X G a30
    b__law_names_right := (fun_mk (st := topS 30) l30 c30 k30).binds (ps := ["_law_source_here", "_law_pairs_here"]) fun _ _ _ _ _ _ us hl => match us, hl with | [_, _], _ => rfl
    F__law_form_right := fun_mk (st := topS 31) l31 c31 k31
    g__law_form_right := PySem.W.mg_of X G a31
    b__law_form_right := (fun_mk (st := topS 31) l31 c31 k31).binds (ps := ["_law_pairs_here"]) fun _ _ _ _ _ _ us hl => match us, hl with | [_], _ => rfl
    F_law := fun_mk (st := topS 32) l32 c32 k32
    g_law := PySem.W.mg_of X G a32
    b_law := (fun_mk (st := topS 32) l32 c32 k32).binds (ps := ["_law_script"]) fun _ _ _ _ _ _ us hl => match us, hl with | [_], _ => rfl
    z_len := PySem.W.mg_none_of X G z_len
    z_int := PySem.W.mg_none_of X G z_int
    z_bool := PySem.W.mg_none_of X G z_bool
    z_list := PySem.W.mg_none_of X G z_list
    z_tuple := PySem.W.mg_none_of X G z_tuple
    z_range := PySem.W.mg_none_of X G z_range
    z_sorted := PySem.W.mg_none_of X G z_sorted
    z_isinstance := PySem.W.mg_none_of X G z_isinstance
    z_abs := PySem.W.mg_none_of X G z_abs
    z_sum := PySem.W.mg_none_of X G z_sum
    z_iter := PySem.W.mg_none_of X G z_iter
    i_gcd := PySem.W.mg_of X G i_gcd
  }
  exact ⟨D 32, fun s v => .of_eq rfl, fun base _ _ => ok_law T⟩
theorem walk {l : PySem.W.OpenLaw} {q : Program} {loose : List Str} {XP : (Str → Option Value) → Heap → Prop} {YP : World → Heap → Prop} {d : DefRec} {K : Params → PySem.W.Frag} (hn : l.most = some 63) (hdf : d.params.defaults = [])
    (hY : ∀ (w : World) (h : Heap), YP w h → (K w.params).In h)
    (F : ∀ (w : World) (mg : Str → Option Value) (fa : Addr) (h : Heap), (K w.params).In h → h.Ns mainGlobals mg → mg d.name = some (.ref fa) →
      ∃ fd : FuncData, (∀ (s : Shared) (u : Value), BindsTo s fd ⟨[u], []⟩ [("_law_script", u)]) ∧ ∀ base : Heap, (K w.params).In base → base.Ns mainGlobals mg → FnOk l.prog w (K w.params) mg base CX0 7 fa fd ["_law_script"] (sp_law (K w.params))) :
    PySem.W.WalkO q loose XP YP l.row.toRowW d [] (fun f vs => PySem.call f vs) :=
  L2.walk_of (n := 63) (k := 7) (x := "_law_script") (CX := fun _ => CX0) (sp := fun w => sp_law (K w.params)) hn (by decide) hdf ⟨rfl, by decide, by decide⟩ hY F (fun _ H a ns hl hO hS => ⟨a, ns, rfl, hS, hl, fun _ => rfl⟩) fun _ _ _ _ _ z => z
end Sl
open PySem PySem.W PyProof.Rows
set_option maxRecDepth 100000 in
set_option maxHeartbeats 0 in
theorem PySem.Challenge.cw_shadowlinks_k23_ratios_and_sums_holds : PySem.Challenge.rw_shadowlinks_k23_ratios_and_sums.Holds := by
  w_on; o_law; k_head; (case hw => w_witness2)
  k_fill
  refine Sl.walk (l := PySem.Challenge.rw_shadowlinks_k23_ratios_and_sums) rfl rfl (fun w h Y => PySem.W.kIn_of Y) ?F
  case F =>
    intro w mg fa h KX G hmg
    refine' Sl.all_mk KX G hmg ?a11 ?pg11 ?hd11 ?po11 ?os11 ?rd11 ?og11 ?sf11 ?n11_terms ?mk11 ?kp11 ?at1220 ?fn1220 ?l1220 ?lt1220 ?le1220_0 ?c1220 ?k1220 ?at1221 ?fn1221 ?l1221 ?c1221 ?k1221 ?at1222 ?fn1222 ?l1222 ?c1222 ?k1222 ?at1223 ?fn1223 ?l1223 ?c1223 ?k1223 ?at1224 ?fn1224 ?l1224 ?c1224 ?k1224 ?at1225 ?fn1225 ?l1225 ?c1225 ?k1225 ?at1226 ?fn1226 ?l1226 ?c1226 ?k1226 ?at1227 ?fn1227 ?l1227 ?c1227 ?k1227 ?at1228 ?fn1228 ?l1228 ?c1228 ?k1228 ?at1229 ?fn1229 ?l1229 ?c1229 ?k1229 ?at1230 ?fn1230 ?l1230 ?c1230 ?k1230 ?at1231 ?fn1231 ?l1231 ?c1231 ?k1231 ?b1_11_Mult_int ?b2_11_Mult_int ?b3_11_Mult_int ?b4_11_Mult_int ?r2_11 ?r3_11 ?r4_11 ?a2 ?l2 ?c2 ?k2 ?lt2 ?a3 ?l3 ?c3 ?k3 ?a4 ?l4 ?c4 ?k4 ?a5 ?l5 ?c5 ?k5 ?a6 ?l6 ?c6 ?k6 ?a7 ?l7 ?c7 ?k7 ?a9 ?l9 ?c9 ?k9 ?a10 ?l10 ?c10 ?k10 ?a13 ?l13 ?c13 ?k13 ?a14 ?l14 ?c14 ?k14 ?a15 ?l15 ?c15 ?k15 ?a16 ?l16 ?c16 ?k16 ?a17 ?l17 ?c17 ?k17 ?a18 ?l18 ?c18 ?k18 ?a19 ?l19 ?c19 ?k19 ?a20 ?l20 ?c20 ?k20 ?a21 ?l21 ?c21 ?k21 ?a22 ?l22 ?c22 ?k22 ?a23 ?l23 ?c23 ?k23 ?a24 ?l24 ?c24 ?k24 ?a25 ?l25 ?c25 ?k25 ?a26 ?l26 ?c26 ?k26 ?a27 ?l27 ?c27 ?k27 ?a28 ?l28 ?c28 ?k28 ?a29 ?l29 ?c29 ?k29 ?a30 ?l30 ?c30 ?k30 ?a31 ?l31 ?c31 ?k31 ?a32 ?l32 ?c32 ?k32 ?z_len ?z_int ?z_bool ?z_list ?z_tuple ?z_range ?z_sorted ?z_isinstance ?z_abs ?z_sum ?z_iter ?i_gcd
    (case a11 => k_is)
    (case pg11 => k_is)
    (case hd11 => k_is)
    (case po11 => k_is)
    (case os11 => k_is)
    (case rd11 => k_is)
    (case og11 => k_is)
    (case sf11 => k_is)
    (case n11_terms => k_is)
    (case mk11 => k_is)
    (case kp11 => k_is)
    (case at1220 => k_is)
    (case fn1220 => k_is)
    (case l1220 => k_is)
    (case lt1220 => k_is)
    (case le1220_0 => k_is)
    (case c1220 => k_is)
    (case k1220 => k_is)
    (case at1221 => k_is)
    (case fn1221 => k_is)
    (case l1221 => k_is)
    (case c1221 => k_is)
    (case k1221 => k_is)
    (case at1222 => k_is)
    (case fn1222 => k_is)
    (case l1222 => k_is)
    (case c1222 => k_is)
    (case k1222 => k_is)
    (case at1223 => k_is)
    (case fn1223 => k_is)
    (case l1223 => k_is)
    (case c1223 => k_is)
    (case k1223 => k_is)
    (case at1224 => k_is)
    (case fn1224 => k_is)
    (case l1224 => k_is)
    (case c1224 => k_is)
    (case k1224 => k_is)
    (case at1225 => k_is)
    (case fn1225 => k_is)
    (case l1225 => k_is)
    (case c1225 => k_is)
    (case k1225 => k_is)
    (case at1226 => k_is)
    (case fn1226 => k_is)
    (case l1226 => k_is)
    (case c1226 => k_is)
    (case k1226 => k_is)
    (case at1227 => k_is)
    (case fn1227 => k_is)
    (case l1227 => k_is)
    (case c1227 => k_is)
    (case k1227 => k_is)
    (case at1228 => k_is)
    (case fn1228 => k_is)
    (case l1228 => k_is)
    (case c1228 => k_is)
    (case k1228 => k_is)
    (case at1229 => k_is)
    (case fn1229 => k_is)
    (case l1229 => k_is)
    (case c1229 => k_is)
    (case k1229 => k_is)
    (case at1230 => k_is)
    (case fn1230 => k_is)
    (case l1230 => k_is)
    (case c1230 => k_is)
    (case k1230 => k_is)
    (case at1231 => k_is)
    (case fn1231 => k_is)
    (case l1231 => k_is)
    (case c1231 => k_is)
    (case k1231 => k_is)
    (case b1_11_Mult_int => k_is)
    (case b2_11_Mult_int => k_is)
    (case b3_11_Mult_int => k_is)
    (case b4_11_Mult_int => k_is)
    (case r2_11 => k_is)
    (case r3_11 => k_is)
    (case r4_11 => k_is)
    (case a2 => k_is)
    (case l2 => k_is)
    (case c2 => k_is)
    (case k2 => k_is)
    (case lt2 => k_is)
    (case a3 => k_is)
    (case l3 => k_is)
    (case c3 => k_is)
    (case k3 => k_is)
    (case a4 => k_is)
    (case l4 => k_is)
    (case c4 => k_is)
    (case k4 => k_is)
    (case a5 => k_is)
    (case l5 => k_is)
    (case c5 => k_is)
    (case k5 => k_is)
    (case a6 => k_is)
    (case l6 => k_is)
    (case c6 => k_is)
    (case k6 => k_is)
    (case a7 => k_is)
    (case l7 => k_is)
    (case c7 => k_is)
    (case k7 => k_is)
    (case a9 => k_is)
    (case l9 => k_is)
    (case c9 => k_is)
    (case k9 => k_is)
    (case a10 => k_is)
    (case l10 => k_is)
    (case c10 => k_is)
    (case k10 => k_is)
    (case a13 => k_is)
    (case l13 => k_is)
    (case c13 => k_is)
    (case k13 => k_is)
    (case a14 => k_is)
    (case l14 => k_is)
    (case c14 => k_is)
    (case k14 => k_is)
    (case a15 => k_is)
    (case l15 => k_is)
    (case c15 => k_is)
    (case k15 => k_is)
    (case a16 => k_is)
    (case l16 => k_is)
    (case c16 => k_is)
    (case k16 => k_is)
    (case a17 => k_is)
    (case l17 => k_is)
    (case c17 => k_is)
    (case k17 => k_is)
    (case a18 => k_is)
    (case l18 => k_is)
    (case c18 => k_is)
    (case k18 => k_is)
    (case a19 => k_is)
    (case l19 => k_is)
    (case c19 => k_is)
    (case k19 => k_is)
    (case a20 => k_is)
    (case l20 => k_is)
    (case c20 => k_is)
    (case k20 => k_is)
    (case a21 => k_is)
    (case l21 => k_is)
    (case c21 => k_is)
    (case k21 => k_is)
    (case a22 => k_is)
    (case l22 => k_is)
    (case c22 => k_is)
    (case k22 => k_is)
    (case a23 => k_is)
    (case l23 => k_is)
    (case c23 => k_is)
    (case k23 => k_is)
    (case a24 => k_is)
    (case l24 => k_is)
    (case c24 => k_is)
    (case k24 => k_is)
    (case a25 => k_is)
    (case l25 => k_is)
    (case c25 => k_is)
    (case k25 => k_is)
    (case a26 => k_is)
    (case l26 => k_is)
    (case c26 => k_is)
    (case k26 => k_is)
    (case a27 => k_is)
    (case l27 => k_is)
    (case c27 => k_is)
    (case k27 => k_is)
    (case a28 => k_is)
    (case l28 => k_is)
    (case c28 => k_is)
    (case k28 => k_is)
    (case a29 => k_is)
    (case l29 => k_is)
    (case c29 => k_is)
    (case k29 => k_is)
    (case a30 => k_is)
    (case l30 => k_is)
    (case c30 => k_is)
    (case k30 => k_is)
    (case a31 => k_is)
    (case l31 => k_is)
    (case c31 => k_is)
    (case k31 => k_is)
    (case a32 => k_is)
    (case l32 => k_is)
    (case c32 => k_is)
    (case k32 => k_is)
    (case z_len => k_is)
    (case z_int => k_is)
    (case z_bool => k_is)
    (case z_list => k_is)
    (case z_tuple => k_is)
    (case z_range => k_is)
    (case z_sorted => k_is)
    (case z_isinstance => k_is)
    (case z_abs => k_is)
    (case z_sum => k_is)
    (case z_iter => k_is)
    (case i_gcd => k_is)
