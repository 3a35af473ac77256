import PyProof.Rows.All
import Wide.All
import OpenK.AllK
import Wide.FinOn
import HandS.ForMost
import HandS.Walk
import HandS.IsInst
import HandS.Wide
import HandS.Gcd
import HandS.Star
import HandS.Flow
import HandS.EndBits
import HandS.Conv
import HandS.Deep
import HandS.TupAny
import HandS.Codes
import KE.SortData
import KE.SortKeyHeap
import KE.DataCmp
import KE.DataEq
import HandS.Style
import PySem.Challenge.RW_shadowlinks_k01_join_widen_restrict
set_option Elab.async false
set_option linter.all false
set_option maxRecDepth 100000
set_option maxHeartbeats 4000000
namespace Sl
open PySem PySem.Spec PyProof.Rows L2

/-- a tuple, as it stands or held -/
def isTup : HO → Bool
  | .tup _ => true
  | .frz _ (.tup _) => true
  | _ => false
/-- a new address -/
structure Fr (H : Hp) (p : Addr) : Prop where
  eq : H p = none
/-- all stands but what is at A (tuples stand anyway) -/
def Kp (A : List Addr) (H H' : Hp) : Prop := ∀ a o, H a = some o → (a ∉ A ∨ isTup o = true) → H' a = some o
section
variable {A B : List Addr} {H H' H1 H2 : Hp} {p q a : Addr} {o o' u : HO}
theorem Kp.refl : Kp A H H := fun _ _ h _ => h
theorem Kp.trans (x : Kp A H H1) (y : Kp A H1 H2) : Kp A H H2 := fun a o h k => y a o (x a o h k) k
theorem Kp.sub (x : Kp A H H') (h : ∀ a ∈ A, a ∈ B) : Kp B H H' := fun a o e k => x a o e (k.imp (fun n m => n (h a m)) id)
theorem Kp.nil (x : Kp [] H H') : Kp B H H' := x.sub fun _ h => nomatch h
theorem Kp.of_same (x : Same H H') : Kp A H H' := fun a o h _ => x a o h
theorem Kp.same (x : Kp [] H H') : Same H H' := fun a o h => x a o h (.inl (by simp))
theorem Kp.new (h : H p = none) : Kp A H (upd H p o) := fun a u e _ => by
  rw [upd_ne (ne_of_none e h)]; exact e
theorem Kp.own (h : H p = some o) (t : isTup o = false) (m : p ∈ A) : Kp A H (upd H p o') := fun a u e k => by
  by_cases z : a = p
  · subst z
    rw [h] at e
    cases e
    rcases k with k | k
    · exact absurd m k
    · rw [t] at k; cases k
  · rw [upd_ne z]; exact e
/-- a new one, then changed: nothing that stood is touched -/
theorem Kp.back (h : H p = none) (x : Kp (p :: A) H H') : Kp A H H' := fun a o e k => x a o e (k.imp (fun n => by
  simp only [List.mem_cons, not_or]
  exact ⟨ne_of_none e h, n⟩) id)
/-- a change at what was new -/
theorem Kp.put (x : Kp A H H1) (h : H p = none) : Kp A H (upd H1 p o) := fun a u e k => by
  rw [upd_ne (ne_of_none e h)]; exact x a u e k
theorem Kp.get (x : Kp A H H') (h : H a = some o) (k : a ∉ A ∨ isTup o = true) : H' a = some o := x a o h k
theorem Kp.rd (x : Kp A H H') (h : Rd H a o) (n : a ∉ A) : Rd H' a o := by
  rcases h with h | ⟨z, h⟩
  · exact .inl (x _ _ h (.inl n))
  · exact .inr ⟨z, x _ _ h (.inl n)⟩
theorem Kp.sqT {K : PySem.W.Frag} {xs : List V} (x : Kp A H H') (h : SqT K H a xs) : SqT K H' a xs := by
  rcases h with (h | ⟨z, h⟩) | h
  · exact .inl (.inl (x _ _ h (.inr rfl)))
  · exact .inl (.inr ⟨z, x _ _ h (.inr rfl)⟩)
  · exact .inr h
theorem Kp.sqL {K : PySem.W.Frag} {xs : List V} (x : Kp A H H') (n : a ∉ A) (h : SqL K H a xs) : SqL K H' a xs := by
  rcases h with h | h
  · exact .inl (x.rd h n)
  · exact .inr h
theorem Fr.ne (f : Fr H q) (h : H p = some o) : p ≠ q := ne_of_none h f.eq
theorem ne_kind (h : H p = some o) (h' : H q = some u) (d : o ≠ u) : p ≠ q := ne_of h h' d
end

/-! ### data that stands -/
section
variable (A : List Addr) (K : PySem.W.Frag) (H : Hp)
mutual
inductive Dv : V → PyData → Prop
  | non : Dv .non .none
  | bl (b : Bool) : Dv (.bl b) (.bool b)
  | int (i : Int) : Dv (.int i) (.int i)
  | str (x : Str) : Dv (.str x) (.str x)
  | lst {a : Addr} {xs : List V} {ds : List PyData} : Rd H a (.lst xs) → a ∉ A → DvAll xs ds → Dv (.ref a) (.list ds)
  | tup {a : Addr} {xs : List V} {ds : List PyData} : SqT K H a xs → DvAll xs ds → Dv (.ref a) (.tuple ds)
inductive DvAll : List V → List PyData → Prop
  | nil : DvAll [] []
  | cons {v : V} {vs : List V} {d : PyData} {ds : List PyData} : Dv v d → DvAll vs ds → DvAll (v :: vs) (d :: ds)
end
end
section
variable {A B : List Addr} {K : PySem.W.Frag} {H H' : Hp} {p q a : Addr} {o o' u : HO} {v : V} {d : PyData}
mutual
theorem Dv.kp (k : Kp A H H') : ∀ {v : V} {d : PyData}, Dv A K H v d → Dv A K H' v d
  | _, _, .non => .non
  | _, _, .bl b => .bl b
  | _, _, .int i => .int i
  | _, _, .str x => .str x
  | _, _, .lst h n t => .lst (k.rd h n) n (DvAll.kp k t)
  | _, _, .tup h t => .tup (k.sqT h) (DvAll.kp k t)
theorem DvAll.kp (k : Kp A H H') : ∀ {vs : List V} {ds : List PyData}, DvAll A K H vs ds → DvAll A K H' vs ds
  | _, _, .nil => .nil
  | _, _, .cons h t => .cons (Dv.kp k h) (DvAll.kp k t)
end
mutual
theorem Dv.sub (k : ∀ a ∈ B, a ∈ A) : ∀ {v : V} {d : PyData}, Dv A K H v d → Dv B K H v d
  | _, _, .non => .non
  | _, _, .bl b => .bl b
  | _, _, .int i => .int i
  | _, _, .str x => .str x
  | _, _, .lst h n t => .lst h (fun m => n (k _ m)) (DvAll.sub k t)
  | _, _, .tup h t => .tup h (DvAll.sub k t)
theorem DvAll.sub (k : ∀ a ∈ B, a ∈ A) : ∀ {vs : List V} {ds : List PyData}, DvAll A K H vs ds → DvAll B K H vs ds
  | _, _, .nil => .nil
  | _, _, .cons h t => .cons (Dv.sub k h) (DvAll.sub k t)
end
theorem rd_ne (h : H p = none) (r : Rd H a o) : a ≠ p := by
  rcases r with r | ⟨z, r⟩
  · exact ne_of_none r h
  · exact ne_of_none r h
mutual
/-- a new address is none of the data's -/
theorem Dv.more (h : H p = none) : ∀ {v : V} {d : PyData}, Dv A K H v d → Dv (p :: A) K H v d
  | _, _, .non => .non
  | _, _, .bl b => .bl b
  | _, _, .int i => .int i
  | _, _, .str x => .str x
  | _, _, .lst r n t => .lst r (by simp only [List.mem_cons, not_or]; exact ⟨rd_ne h r, n⟩) (DvAll.more h t)
  | _, _, .tup r t => .tup r (DvAll.more h t)
theorem DvAll.more (h : H p = none) : ∀ {vs : List V} {ds : List PyData}, DvAll A K H vs ds → DvAll (p :: A) K H vs ds
  | _, _, .nil => .nil
  | _, _, .cons r t => .cons (Dv.more h r) (DvAll.more h t)
end
mutual
def flatT : PyData → Bool
  | .list _ => false
  | .dict _ => false
  | .tuple ds => flatTs ds
  | _ => true
def flatTs : List PyData → Bool
  | [] => true
  | d :: ds => flatT d && flatTs ds
end
mutual
theorem Dv.any : ∀ {v : V} {d : PyData}, flatT d = true → Dv A K H v d → Dv B K H v d
  | _, _, _, .non => .non
  | _, _, _, .bl b => .bl b
  | _, _, _, .int i => .int i
  | _, _, _, .str x => .str x
  | _, _, e, .lst r n t => by simp [flatT] at e
  | _, _, e, .tup r t => .tup r (DvAll.any (by simpa [flatT] using e) t)
theorem DvAll.any : ∀ {vs : List V} {ds : List PyData}, flatTs ds = true → DvAll A K H vs ds → DvAll B K H vs ds
  | _, _, _, .nil => .nil
  | _, _, e, .cons r t => by
    simp only [flatTs, Bool.and_eq_true] at e
    exact .cons (Dv.any e.1 r) (DvAll.any e.2 t)
end
theorem flatTs_map {α : Type} {f : α → PyData} (h : ∀ x, flatT (f x) = true) : ∀ xs : List α, flatTs (xs.map f) = true
  | [] => rfl
  | x :: xs => by rw [List.map_cons, flatTs, h x, flatTs_map h xs]; rfl
mutual
theorem Dv.dp : ∀ {v : V} {d : PyData}, Dv A K H v d → Dp K H v d
  | _, _, .non => .non
  | _, _, .bl b => .bl b
  | _, _, .int i => .int i
  | _, _, .str x => .str x
  | _, _, .lst h n t => .lst (.inl h) (DvAll.dp t)
  | _, _, .tup h t => .tup h (DvAll.dp t)
theorem DvAll.dp : ∀ {vs : List V} {ds : List PyData}, DvAll A K H vs ds → DpAll K H vs ds
  | _, _, .nil => .nil
  | _, _, .cons h t => .cons (Dv.dp h) (DvAll.dp t)
end
theorem DvAll.length : ∀ {vs : List V} {ds : List PyData}, DvAll A K H vs ds → vs.length = ds.length
  | _, _, .nil => rfl
  | _, _, .cons _ t => congrArg Nat.succ (DvAll.length t)
theorem DvAll.at : ∀ {vs : List V} {ds : List PyData} {i : Nat} {v : V}, DvAll A K H vs ds → vs[i]? = some v → ∃ d, ds[i]? = some d ∧ Dv A K H v d
  | _, _, i, v, .nil, h => by simp at h
  | _, _, 0, v, .cons h _, e => by cases e; exact ⟨_, rfl, h⟩
  | _, _, i + 1, v, .cons _ t, e => DvAll.at (i := i) t e
theorem DvAll.at' : ∀ {vs : List V} {ds : List PyData} {i : Nat} {d : PyData}, DvAll A K H vs ds → ds[i]? = some d → ∃ v, vs[i]? = some v ∧ Dv A K H v d
  | _, _, i, v, .nil, h => by simp at h
  | _, _, 0, v, .cons h _, e => by cases e; exact ⟨_, rfl, h⟩
  | _, _, i + 1, v, .cons _ t, e => DvAll.at' (i := i) t e
theorem DvAll.app : ∀ {vs ws : List V} {ds es : List PyData}, DvAll A K H vs ds → DvAll A K H ws es → DvAll A K H (vs ++ ws) (ds ++ es)
  | _, _, _, _, .nil, h => h
  | _, _, _, _, .cons h t, r => .cons h (DvAll.app t r)
theorem DvAll.one (h : Dv A K H v d) : DvAll A K H [v] [d] := .cons h .nil
theorem DvAll.snoc {vs : List V} {ds : List PyData} (t : DvAll A K H vs ds) (h : Dv A K H v d) : DvAll A K H (vs ++ [v]) (ds ++ [d]) := t.app (.one h)
theorem DvAll.strs : ∀ {vs : List V} {ss : List Str}, DvAll A K H vs (ss.map .str) → vs = ss.map V.str
  | _, [], .nil => rfl
  | _, s :: ss, .cons h t => by
    cases h
    rw [List.map_cons, DvAll.strs t]
theorem DvAll.ints : ∀ {vs : List V} {ss : List Int}, DvAll A K H vs (ss.map .int) → vs = ss.map V.int
  | _, [], .nil => rfl
  | _, s :: ss, .cons h t => by
    cases h
    rw [List.map_cons, DvAll.ints t]
theorem dv_strs : ∀ (ss : List Str), DvAll A K H (ss.map V.str) (ss.map .str)
  | [] => .nil
  | s :: ss => .cons (.str s) (dv_strs ss)
theorem dv_ints : ∀ (ss : List Int), DvAll A K H (ss.map V.int) (ss.map .int)
  | [] => .nil
  | s :: ss => .cons (.int s) (dv_ints ss)
theorem Dv.tup_inv {ds : List PyData} (h : Dv A K H v (.tuple ds)) : ∃ a xs, v = .ref a ∧ SqT K H a xs ∧ DvAll A K H xs ds := by
  cases h with
  | tup r t => exact ⟨_, _, rfl, r, t⟩
theorem Dv.lst_inv {ds : List PyData} (h : Dv A K H v (.list ds)) : ∃ a xs, v = .ref a ∧ Rd H a (.lst xs) ∧ a ∉ A ∧ DvAll A K H xs ds := by
  cases h with
  | lst r n t => exact ⟨_, _, rfl, r, n, t⟩
theorem Dv.str_inv {s : Str} (h : Dv A K H v (.str s)) : v = .str s := by cases h; rfl
theorem Dv.int_inv {s : Int} (h : Dv A K H v (.int s)) : v = .int s := by cases h; rfl
theorem Dv.bl_inv {s : Bool} (h : Dv A K H v (.bool s)) : v = .bl s := by cases h; rfl
theorem Dv.non_inv (h : Dv A K H v .none) : v = .non := by cases h; rfl
end

theorem sz {n : Nat} (h : n ≤ 100000) : n ≤ sizeLine := Nat.le_trans h (by decide)
theorem szl {n : Nat} (h : n < 100000) : n < sizeLine := Nat.lt_of_lt_of_le h (by decide)
/-! ### the source of draws -/
def Src (H : Hp) (a : Addr) : Prop := ∃ n c : Int, H a = some (.lst [.int n, .int c])
theorem Src.kp {A : List Addr} {H H' : Hp} {a : Addr} (k : Kp A H H') (n : a ∉ A) (h : Src H a) : Src H' a := by
  obtain ⟨x, y, e⟩ := h
  exact ⟨x, y, k _ _ e (.inl n)⟩
end Sl
namespace Sl
open PySem PySem.Spec PyProof.Rows L2
section
variable {X : Cx} {CX : CXT} {k : Nat} {f : Addr} {sp : Sp} {E : XK} {x : Str} {e : Expr} {es : List Expr} {t : TA} {p pos : Pos}
/-- f(e, ..), f of any binding, by a positional promise -/
theorem pe_callF (F : FnR X.prog X.w X.K X.mg X.base CX k f sp) (hr : Room k X.A) (hk : PySem.W.keepIn X.K (.ref f) = true) (hg : Gl X x) (hm : X.mg x = some (.ref f)) (hx : Passes CX X E) (ha : PA X (e :: es) t) (hdb : (x == ("__debug__" : Str)) = false := by decide)
    (he : starEach (e :: es) X.env = (false, eval e X.env) :: starEach es X.env := by rfl) (hpl : (backTo pos (starEach es X.env)).any (·.1) = false := by rfl) :
    PE X (.Call (.Name x p) (e :: es) [] pos) (fun σ H Q => t σ H fun vs H1 => sp vs H1 Q E) := by
  refine ⟨fun pins s σ H Q I h => ?_⟩
  refine wpAny_Call_Name_kw (ld_glob I hg hm ?_ hdb)
  refine PySem.W.callWith_K (h₀ := X.base) I.ok.mod.kin hk (thn (ha.run pos pins s σ H _ I h) fun us s1 ⟨vs, H1, I1, r, q⟩ => ⟨I1.kIn, ?_⟩) he hpl
  exact wpAny_call (run_fnR F hr hx I1 r q)
/-- f(), f of any binding -/
theorem pe_callF0 (F : FnR X.prog X.w X.K X.mg X.base CX k f sp) (hr : Room k X.A) (hg : Gl X x) (hm : X.mg x = some (.ref f)) (hk : PySem.W.keepIn X.K (.ref f) = true) (hx : Passes CX X E)
    (hdb : (x == ("__debug__" : Str)) = false := by decide) : PE X (.Call (.Name x p) [] [] pos) (fun _ H Q => sp [] H Q E) := by
  refine ⟨fun pins s σ H Q I h => ?_⟩
  refine wpAny_Call_Name_kw (ld_glob I hg hm ?_ hdb)
  exact PySem.W.callWith_K0 I.kIn hk (wpAny_call (run_fnR F hr hx I .nil h))
/-- def f(.., *v): n written, the rest a new tuple -/
def star (n : Nat) (sp : Sp) : Sp := fun vs H Q E => ∃ ws rest, vs = ws ++ rest ∧ ws.length = n ∧ rest.length ≤ sizeLine ∧ ∀ p, H p = Option.none → sp (ws ++ [V.ref p]) (upd H p (.tup rest)) Q E
end
end Sl
namespace Sl
open PySem PySem.Spec PyProof.Rows L2
/-! ### two readings of one term -/
section
variable {X : Cx}
theorem pi_or {tg e : Expr} {w1 w2 : TI} (h1 : PI X tg e w1) (h2 : PI X tg e w2) : PI X tg e (fun σ H R => w1 σ H R ∨ w2 σ H R) :=
  ⟨fun pins s σ H R I h => h.elim (h1.run pins s σ H R I) (h2.run pins s σ H R I)⟩
theorem pe_or2 {e : Expr} {t1 t2 : TE} (h1 : PE X e t1) (h2 : PE X e t2) : PE X e (fun σ H Q => t1 σ H Q ∨ t2 σ H Q) :=
  ⟨fun pins s σ H R I h => h.elim (h1.run pins s σ H R I) (h2.run pins s σ H R I)⟩
theorem pt_or2 {e : Expr} {t1 t2 : TT} (h1 : PT X e t1) (h2 : PT X e t2) : PT X e (fun σ H Q => t1 σ H Q ∨ t2 σ H Q) :=
  ⟨fun pins s σ H R I h => h.elim (h1.run pins s σ H R I) (h2.run pins s σ H R I)⟩
theorem op_or2 {f : Value → Value → Sem Value} {r1 r2 : R2} (h1 : OpR X f r1) (h2 : OpR X f r2) : OpR X f (fun x y H Q => r1 x y H Q ∨ r2 x y H Q) :=
  fun pins s σ H x y v u Q I rx ry h => h.elim (h1 pins s σ H x y v u Q I rx ry) (h2 pins s σ H x y v u Q I rx ry)
theorem cr_or2 {f : Value} {r1 r2 : List V → Hp → VK → Prop} (h1 : CallR X f r1) (h2 : CallR X f r2) : CallR X f (fun xs H Q => r1 xs H Q ∨ r2 xs H Q) :=
  fun pins s σ H xs us Q I r h => h.elim (h1 pins s σ H xs us Q I r) (h2 pins s σ H xs us Q I r)
end
theorem nox_ex {X : Cx} {b : List Stmt} {R : TS → Prop} (h : ∃ t, PSs X.nox b t ∧ R t) : ∃ t, PSs X b t ∧ R t := by
  obtain ⟨t, h1, h2⟩ := h
  exact ⟨t, h1.nox, h2⟩
/-! ### texts in ascending order -/
def slt (a b : Str) : Prop := TL.tl a < TL.tl b
instance (a b : Str) : Decidable (slt a b) := inferInstanceAs (Decidable (TL.tl a < TL.tl b))
theorem ltCps_iff : ∀ a b : List Nat, ltCps a b = true ↔ a < b
  | [], [] => by simp [ltCps]
  | [], b :: bs => by simp [ltCps]
  | a :: as, [] => by simp [ltCps]
  | a :: as, b :: bs => by
    have ih := ltCps_iff as bs
    simp only [ltCps, List.cons_lt_cons_iff, Bool.or_eq_true, Bool.and_eq_true, decide_eq_true_eq, beq_iff_eq, ih]
theorem slt_trans {a b c : Str} (h : slt a b) (h' : slt b c) : slt a c := List.lt_trans h h'
theorem slt_irrefl (a : Str) : ¬ slt a a := List.lt_irrefl _
theorem slt_tri (a b : Str) : slt a b ∨ a = b ∨ slt b a := by
  by_cases h : slt a b
  · exact .inl h
  · by_cases h' : slt b a
    · exact .inr (.inr h')
    · exact .inr (.inl (TL.ext_tl (List.le_antisymm (List.not_lt.mp h') (List.not_lt.mp h))))
theorem slt_asymm {a b : Str} (h : slt a b) : ¬ slt b a := fun h' => slt_irrefl _ (slt_trans h h')
/-- strictly ascending -/
def Asc (l : List Str) : Prop := l.Pairwise slt
theorem rising_pw : ∀ (p : Str) (l : List Str), risingS p l = true → (p :: l).Pairwise (fun a b => ¬ slt b a)
  | p, [], _ => List.pairwise_singleton _ _
  | p, x :: r, h => by
    simp only [risingS, Bool.and_eq_true, Bool.not_eq_true'] at h
    have ih := rising_pw x r h.2
    have hpx : ¬ slt x p := fun z => by rw [(ltCps_iff _ _).mpr z] at h; exact Bool.noConfusion h.1
    refine List.pairwise_cons.mpr ⟨fun y hy => ?_, ih⟩
    rcases List.mem_cons.mp hy with e | e
    · subst e; exact hpx
    · intro z
      have hxy := (List.pairwise_cons.mp ih).1 y e
      rcases slt_tri x y with q | q | q
      · exact hpx (slt_trans q z)
      · subst q; exact hpx z
      · exact hxy q
theorem asc_of_sorted {l : List Str} (h : sortedS l = true) (nd : l.Nodup) : Asc l := by
  cases l with
  | nil => exact List.Pairwise.nil
  | cons x r =>
    have hp := rising_pw x r h
    refine List.Pairwise.imp₂ (fun a b h1 h2 => ?_) hp nd
    rcases slt_tri a b with q | q | q
    · exact q
    · exact absurd q h2
    · exact absurd q h1
theorem Asc.nodup {l : List Str} (h : Asc l) : l.Nodup := h.imp fun q e => by subst e; exact slt_irrefl _ q
/-- ascending lists with the same members are one -/
theorem Asc.ext : ∀ {l m : List Str}, Asc l → Asc m → (∀ x, x ∈ l ↔ x ∈ m) → l = m
  | [], [], _, _, _ => rfl
  | [], y :: m, _, _, h => absurd ((h y).mpr (List.mem_cons_self ..)) List.not_mem_nil
  | x :: l, [], _, _, h => absurd ((h x).mp (List.mem_cons_self ..)) List.not_mem_nil
  | x :: l, y :: m, hl, hm, h => by
    have h1 := List.pairwise_cons.mp hl
    have h2 := List.pairwise_cons.mp hm
    have e : x = y := by
      rcases List.mem_cons.mp ((h x).mp (List.mem_cons_self ..)) with e | e
      · exact e
      · rcases List.mem_cons.mp ((h y).mpr (List.mem_cons_self ..)) with e' | e'
        · exact e'.symm
        · exact absurd (slt_trans (h2.1 x e) (h1.1 y e')) (slt_irrefl _)
    subst e
    rw [Asc.ext h1.2 h2.2 fun z => ?_]
    constructor
    · intro hz
      rcases List.mem_cons.mp ((h z).mp (List.mem_cons_of_mem _ hz)) with e | e
      · subst e; exact absurd (h1.1 _ hz) (slt_irrefl _)
      · exact e
    · intro hz
      rcases List.mem_cons.mp ((h z).mpr (List.mem_cons_of_mem _ hz)) with e | e
      · subst e; exact absurd (h2.1 _ hz) (slt_irrefl _)
      · exact e
/-- a list or a tuple -/
def Sq (K : PySem.W.Frag) (H : Hp) (a : Addr) (xs : List V) : Prop := SqL K H a xs ∨ SqT K H a xs
/-- one for each -/
def All2 {α β : Type} (R : α → β → Prop) : List α → List β → Prop
  | [], [] => True
  | x :: xs, y :: ys => R x y ∧ All2 R xs ys
  | _, _ => False
theorem All2.at {α β : Type} {R : α → β → Prop} : ∀ {xs : List α} {ys : List β} {i : Nat} {x : α}, All2 R xs ys → xs[i]? = some x → ∃ y, ys[i]? = some y ∧ R x y
  | [], _, _, _, _, e => by simp at e
  | x :: xs, [], _, _, h, _ => False.elim h
  | x :: xs, y :: ys, 0, _, h, e => by cases e; exact ⟨y, rfl, h.1⟩
  | x :: xs, y :: ys, i + 1, _, h, e => All2.at (i := i) h.2 e
theorem All2.length {α β : Type} {R : α → β → Prop} : ∀ {xs : List α} {ys : List β}, All2 R xs ys → xs.length = ys.length
  | [], [], _ => rfl
  | [], _ :: _, h => False.elim h
  | _ :: _, [], h => False.elim h
  | x :: xs, y :: ys, h => congrArg Nat.succ (All2.length h.2)
theorem All2.imp {α β : Type} {R S : α → β → Prop} (k : ∀ x y, R x y → S x y) : ∀ {xs : List α} {ys : List β}, All2 R xs ys → All2 S xs ys
  | [], [], _ => trivial
  | [], _ :: _, h => False.elim h
  | _ :: _, [], h => False.elim h
  | x :: xs, y :: ys, h => ⟨k _ _ h.1, All2.imp k h.2⟩
theorem All2.snoc {α β : Type} {R : α → β → Prop} : ∀ {xs : List α} {ys : List β} {x : α} {y : β}, All2 R xs ys → R x y → All2 R (xs ++ [x]) (ys ++ [y])
  | [], [], _, _, _, h => ⟨h, trivial⟩
  | [], _ :: _, _, _, h, _ => False.elim h
  | _ :: _, [], _, _, h, _ => False.elim h
  | x :: xs, y :: ys, _, _, h, k => ⟨h.1, All2.snoc h.2 k⟩
end Sl
namespace Sl
open PySem PySem.Spec PyProof.Rows L2
/-! ### tests whose answer is told -/
/-- the answer is b, the heap stands -/
def An (t : TT) (σ : L2.St) (H : Hp) (b : Bool) : Prop := ∀ Q : Bool → Hp → Prop, Q b H → t σ H Q
/-- the value is v, the heap stands -/
def Vl (t : TE) (σ : L2.St) (H : Hp) (v : V) : Prop := ∀ Q : VK, Q v H → t σ H Q
section
variable {σ : L2.St} {H : Hp} {t u c : TT} {a b : Bool} {ta tb : TE} {x y z v : V} {D : Ends} {t1 t2 s2 : TS}
theorem an_and (h1 : An t σ H a) (h2 : a = true → An u σ H b) : An (tAnd t u) σ H (a && b) := fun Q q => by
  refine h1 _ ?_
  cases a with
  | true => exact h2 rfl Q q
  | false => exact q
theorem an_or (h1 : An t σ H a) (h2 : a = false → An u σ H b) : An (tOr t u) σ H (a || b) := fun Q q => by
  refine h1 _ ?_
  cases a with
  | true => exact q
  | false => exact h2 rfl Q q
theorem an_not (h1 : An t σ H a) : An (tNot t) σ H (!a) := fun Q q => h1 _ q
theorem an_cmp {r : R2} (h1 : Vl ta σ H x) (h2 : Vl tb σ H y) (hr : ∀ Q : VK, Q (.bl b) H → r x y H Q) : An (tTest (tOp r ta tb)) σ H b := fun Q q => h1 _ (h2 _ (hr _ ⟨b, rfl, q⟩))
theorem an_val (h1 : Vl ta σ H (.bl b)) : An (tB ta) σ H b := fun Q q => h1 _ ⟨b, rfl, q⟩
theorem an_test (h1 : Vl ta σ H (.bl b)) : An (tTest ta) σ H b := fun Q q => h1 _ ⟨b, rfl, q⟩
theorem vl_var {i : Nat} (h : σ[i]? = some (some v)) : Vl (tVar i) σ H v := fun Q q => ⟨v, h, q⟩
theorem vl_c : Vl (tC v) σ H v := fun Q q => q
theorem vl_op {r : R2} (h1 : Vl ta σ H x) (h2 : Vl tb σ H y) (hr : ∀ Q : VK, Q z H → r x y H Q) : Vl (tOp r ta tb) σ H z := fun Q q => h1 _ (h2 _ (hr _ q))
theorem vl_un {r : V → Hp → VK → Prop} (h1 : Vl ta σ H x) (hr : ∀ Q : VK, Q z H → r x H Q) : Vl (tUn r ta) σ H z := fun Q q => h1 _ (hr _ q)
theorem vl_cb1 {r : List V → Hp → VK → Prop} (h1 : Vl ta σ H x) (hr : ∀ Q : VK, Q z H → r [x] H Q) : Vl (tCB r (tCons ta tNil)) σ H z := fun Q q => h1 _ (hr _ q)
theorem vl_cb2 {r : List V → Hp → VK → Prop} (h1 : Vl ta σ H x) (h2 : Vl tb σ H y) (hr : ∀ Q : VK, Q z H → r [x, y] H Q) : Vl (tCB r (tCons ta (tCons tb tNil))) σ H z := fun Q q => h1 _ (h2 _ (hr _ q))
theorem vl_chain {r r' : R2} {tc : TE} {w : V} (h1 : Vl ta σ H x) (h2 : Vl tb σ H y) (h3 : a = true → Vl tc σ H w) (hr : ∀ Q : VK, Q (.bl a) H → r x y H Q) (hr' : a = true → ∀ Q : VK, Q (.bl b) H → r' y w H Q) : Vl (tChain r r' ta tb tc) σ H (.bl (a && b)) := fun Q q => by
  refine h1 _ (h2 _ (hr _ ⟨a, rfl, ?_⟩))
  cases a with
  | true => exact h3 rfl _ (hr' rfl _ q)
  | false => exact q
theorem vl_not (h1 : Vl ta σ H (.bl a)) : Vl (tNotV ta) σ H (.bl (!a)) := fun Q q => h1 _ ⟨a, rfl, q⟩
theorem vl_andV (h1 : Vl ta σ H (.bl a)) (h2 : a = true → Vl tb σ H (.bl b)) : Vl (tAndV ta tb) σ H (.bl (a && b)) := fun Q q => h1 _ ⟨a, rfl, by
  cases a with
  | true => exact h2 rfl _ q
  | false => exact q⟩
theorem vl_orV (h1 : Vl ta σ H (.bl a)) (h2 : a = false → Vl tb σ H (.bl b)) : Vl (tOrV ta tb) σ H (.bl (a || b)) := fun Q q => h1 _ ⟨a, rfl, by
  cases a with
  | true => exact q
  | false => exact h2 rfl _ q⟩
theorem if_an (h : An c σ H b) (k1 : b = true → t1 D σ H) (k2 : b = false → t2 D σ H) : tIfS c t1 t2 D σ H := by
  refine h _ ?_
  cases b with
  | true => exact k1 rfl
  | false => exact k2 rfl
theorem seq_if (h : An c σ H b) (k1 : b = true → t1 { D with nx := s2 D } σ H) (k2 : b = false → t2 { D with nx := s2 D } σ H) : tSeq (tIfS c t1 t2) s2 D σ H := if_an h k1 k2
theorem seq_if0 (h : An c σ H b) (k1 : b = true → t1 { D with nx := s2 D } σ H) (k2 : b = false → s2 D σ H) : tSeq (tIfS c t1 tNext) s2 D σ H := if_an h k1 k2
theorem seq_ifK0 (h : t σ H fun b H' => if b = true then t1 { D with nx := s2 D } σ H' else s2 D σ H') : tSeq (tIfS t t1 tNext) s2 D σ H := h
theorem seq_set {i : Nat} (h : Vl ta σ H v) (k : s2 D (σ.set i (some v)) H) : tSeq (tAsg ta (gName i)) s2 D σ H := h _ k
theorem seq_setK {i : Nat} (h : ta σ H fun v H' => s2 D (σ.set i (some v)) H') : tSeq (tAsg ta (gName i)) s2 D σ H := h
theorem setK {i : Nat} (h : ta σ H fun v H' => D.nx (σ.set i (some v)) H') : tAsg ta (gName i) D σ H := h
theorem seq_dropK (h : ta σ H fun _ H' => s2 D σ H') : tSeq (tDrop ta) s2 D σ H := h
theorem dropK' (h : ta σ H fun _ H' => D.nx σ H') : tDrop ta D σ H := h
theorem retK (h : ta σ H D.rt) : tRet ta D σ H := h
theorem if_anK (h : t σ H fun b H' => if b = true then t1 D σ H' else t2 D σ H') : tIfS t t1 t2 D σ H := h
theorem seq_ifK (h : t σ H fun b H' => if b = true then t1 { D with nx := s2 D } σ H' else t2 { D with nx := s2 D } σ H') : tSeq (tIfS t t1 t2) s2 D σ H := h
theorem seq_forK {wi : TI} {g : TG} {tb : TS} (h : tFor wi g tb { D with nx := s2 D } σ H) : tSeq (tFor wi g tb) s2 D σ H := h
theorem seq_whileK {c : TT} {tb : TS} (h : tWhile c tb { D with nx := s2 D } σ H) : tSeq (tWhile c tb) s2 D σ H := h
theorem seq_parK {i j : Nat} {ta : TA} (h : ta σ H fun vs H1 => ∃ v w, vs = [v, w] ∧ s2 D ((σ.set i (some v)).set j (some w)) H1) : tSeq (tPar i j ta) s2 D σ H := h
theorem parK {i j : Nat} {ta : TA} (h : ta σ H fun vs H1 => ∃ v w, vs = [v, w] ∧ D.nx ((σ.set i (some v)).set j (some w)) H1) : tPar i j ta D σ H := h
theorem gnK {i : Nat} {v : V} {Q : L2.St → Hp → Prop} (h : Q (σ.set i (some v)) H) : gName i v σ H Q := h
theorem yesK {Q : Bool → Hp → Prop} (h : Q true H) : tYes σ H Q := h
theorem nextK (h : D.nx σ H) : tNext D σ H := h
theorem ret_vl (h : Vl ta σ H v) (k : D.rt v H) : tRet ta D σ H := h _ k
theorem An.to (h : An t σ H a) (e : a = b) : An t σ H b := e ▸ h
theorem Vl.to (h : Vl ta σ H x) (e : x = y) : Vl ta σ H y := e ▸ h
end
/-- two ways that meet -/
theorem cutK {t u : TS} {D : Ends} {σ : L2.St} {H : Hp} (Mid : L2.St → Hp → Prop) (h1 : t { D with nx := Mid } σ H) (h2 : ∀ σ' H', Mid σ' H' → u D σ' H') : C8.tCut t u D σ H := ⟨Mid, h1, h2⟩
theorem an_use {c : TT} {σ : L2.St} {H : Hp} {b : Bool} {Q : Bool → Hp → Prop} (h : An c σ H b) (q : Q b H) : c σ H Q := h Q q
/-- a for and what stands behind it -/
theorem for_seq {J : It} {n : Nat} {G : Hp → Prop} {Y : Nat → Hp → V → Hp → Prop} (w : Walk J n G Y) {g : TG} {tb s2 : TS} {D : Ends} {σ : L2.St} {H : Hp} (Pv : Nat → L2.St → Hp → Prop) (h0 : Pv 0 σ H) (hG : ∀ i σ H, i ≤ n → Pv i σ H → G H)
    (hs : ∀ i x σ H H', i < n → Pv i σ H → Y i H x H' → g x σ H' fun σ2 H2 => tb { D with nx := Pv (i + 1), ct := Pv (i + 1), bk := s2 D } σ2 H2) (hd : ∀ σ H, Pv n σ H → s2 D σ H) :
    ∃ W : Nat → Nat → L2.St → Hp → Prop, (∃ m, W 0 m σ H) ∧ ∀ i m σ H, W i m σ H →
      (J.stop i H ∧ (Ends.mk (s2 D) D.rt D.bk D.ct).nx σ H) ∨ (J.go i H ∧ ∃ N : L2.St → Hp → Prop, (∀ σ' H', N σ' H' → ∃ m', m' < m ∧ W (i + 1) m' σ' H') ∧ ∀ x H', J.yld i H x H' → g x σ H' fun σ2 H2 => tb { (Ends.mk (s2 D) D.rt D.bk D.ct) with nx := N, ct := N, bk := (Ends.mk (s2 D) D.rt D.bk D.ct).nx } σ2 H2) :=
  for_it (D := Ends.mk (s2 D) D.rt D.bk D.ct) w Pv h0 hG hs hd
/-- one sign of a text -/
theorem sign_at {z : Str} {r : Int} (h0 : 0 ≤ r) (h1 : r < z.length) : ∃ c, atI z.cps.toList r = some c ∧ c ∈ TL.tl z := by
  obtain ⟨n, rfl⟩ := Int.eq_ofNat_of_zero_le h0
  have h : n < z.cps.toList.length := by
    have e : z.length = z.cps.toList.length := TL.len_tl z
    omega
  exact ⟨z.cps.toList[n], atI_nat (by simp), List.getElem_mem h⟩
end Sl
namespace Sl
open PySem PySem.Spec PyProof.Rows L2
/-! ### data of written depth -/
/-- all signs are signs -/
def okS (s : Str) : Prop := ∀ c ∈ TL.tl s, c < 1114112
theorem okS.ok {s : Str} (h : okS s) : PyData.canLay0 (.str s) = true := by
  show PyData.strOk s = true
  unfold PyData.strOk
  rw [Array.all_eq_true']
  intro c hc
  simpa using h c (Array.mem_toList_iff.mpr hc)
theorem lay_map {α : Type} {f : α → PyData} : ∀ {xs : List α}, (∀ x ∈ xs, (f x).canLay0 = true) → PyData.canLayAll0 (xs.map f) = true
  | [], _ => rfl
  | x :: xs, h => by
    rw [List.map_cons, PyData.canLayAll0, h x (List.mem_cons_self ..), lay_map fun y hy => h y (List.mem_cons_of_mem _ hy)]; rfl
theorem depth_map {α : Type} {f : α → PyData} {k : Nat} : ∀ {xs : List α}, (∀ x ∈ xs, (f x).depth ≤ k) → PyData.depthAll (xs.map f) ≤ k
  | [], _ => Nat.zero_le _
  | x :: xs, h => by
    rw [List.map_cons, PyData.depthAll]
    have h1 := h x (List.mem_cons_self ..)
    have h2 := depth_map (k := k) (xs := xs) fun y hy => h y (List.mem_cons_of_mem _ hy)
    omega
theorem shaped_of {d : PyData} (h : d.canLay0 = true) (h' : d.depth ≤ 64) : SeqAt.shaped d = true := by
  unfold SeqAt.shaped
  rw [h, decide_eq_true h']; rfl
theorem inV_strs {s : Str} : ∀ {ys : List Str}, inV (.str s) (ys.map V.str) = decide (s ∈ ys)
  | [] => rfl
  | y :: ys => by
    have ih := inV_strs (s := s) (ys := ys)
    unfold inV at ih ⊢
    rw [List.map_cons, List.any_cons, ih]
    show (y == s || decide (s ∈ ys)) = decide (s ∈ y :: ys)
    by_cases e : s = y
    · subst e; simp
    · have : (y == s) = false := by simp [Ne.symm e]
      rw [this]; simp [e]
theorem flat_strs (ys : List Str) : (ys.map V.str).all flatV = true := by
  rw [List.all_eq_true]
  intro v hv
  obtain ⟨s, _, rfl⟩ := List.mem_map.mp hv
  rfl
end Sl
namespace Sl
open PySem PySem.Spec PyProof.Rows L2
/-! ### rules by K alone (they go into a comprehension's block) -/
def rListOf (K : PySem.W.Frag) : List V → Hp → VK → Prop := fun xs H Q => ∃ p ys, xs = [.ref p] ∧ (SqL K H p ys ∨ SqT K H p ys) ∧ ∀ l, H l = none → Q (.ref l) (upd H l (.lst ys))
def rTupleOf (K : PySem.W.Frag) : List V → Hp → VK → Prop := fun xs H Q => ∃ p ys, xs = [.ref p] ∧ ((SqL K H p ys ∧ ∀ l, H l = none → Q (.ref l) (upd H l (.tup ys))) ∨ (SqT K H p ys ∧ Q (.ref p) H))
def rLenK (K : PySem.W.Frag) : List V → Hp → VK → Prop := fun xs H Q => ∃ x n, xs = [x] ∧ LenV K x H n ∧ Q (.int (n : Nat)) H
section
variable {X : Cx} {K : PySem.W.Frag}
theorem cK_list (e : X.K = K) : CallR X (.type "list") (rListOf K) := by subst e; exact call_list_of
theorem cK_tuple (e : X.K = K) : CallR X (.type "tuple") (rTupleOf K) := by subst e; exact call_tuple_of
theorem cK_len (e : X.K = K) : CallR X (.builtin "len") (rLenK K) := by subst e; exact call_len
theorem cK_isi (e : X.K = K) : CallR X (.builtin "isinstance") (rIsi K) := by subst e; exact call_isi
theorem cK_isiT (e : X.K = K) : CallR X (.builtin "isinstance") (rIsiT K) := by subst e; exact call_isiT
theorem cK_sortedS (e : X.K = K) : CallR X (.builtin "sorted") (rSortedS K) := by subst e; exact cr_sortedS
theorem xK_list (e : X.K = K) : IxR X (rIxL K) := by subst e; exact ix_list
theorem xK_tup (e : X.K = K) : IxR X (rIxT K) := by subst e; exact ix_tup
theorem xK_seq (e : X.K = K) : IxR X (rIx K) := by subst e; exact ix_seq
theorem oK_in (e : X.K = K) : OpR X (compareOp .In) (rIn K false) := by subst e; exact op_in_seq
theorem oK_nin (e : X.K = K) : OpR X (compareOp .NotIn) (rIn K true) := by subst e; exact op_notIn_seq
theorem oK_eqD (e : X.K = K) (hu : X.A.units + 64 < cLine) : OpR X (compareOp .Eq) (rEqD K) := by subst e; exact op_eqD hu
theorem oK_neD (e : X.K = K) (hu : X.A.units + 64 < cLine) : OpR X (compareOp .NotEq) (rNeD K) := by subst e; exact op_neD hu
theorem iK_list {tg l : Expr} {tl : TE} (e : X.K = K) (hl : PE X l tl) : PI X tg l (iList K tl) := by subst e; exact pi_list hl
theorem iK_tup {tg l : Expr} {tl : TE} (e : X.K = K) (hl : PE X l tl) : PI X tg l (iTup K tl) := by subst e; exact pi_tup hl
end
end Sl
namespace Sl
open PySem PySem.Spec PyProof.Rows L2
/-! ### comparisons of data, membership, sorted: over what reads as data -/
section
variable {X : Cx} {K : PySem.W.Frag}
def okD (d e : PyData) : Prop := PySem.W.alike d e = true ∧ d ≠ .none ∧ d.depth ≤ 32
def rLtP (K : PySem.W.Frag) : R2 := fun x y H Q => ∃ d e, Dp K H x d ∧ Dp K H y e ∧ okD d e ∧ Q (.bl (PySem.W.dataLt d e)) H
def rGeP (K : PySem.W.Frag) : R2 := fun x y H Q => ∃ d e, Dp K H x d ∧ Dp K H y e ∧ okD d e ∧ Q (.bl (!PySem.W.dataLt d e)) H
def rGtP (K : PySem.W.Frag) : R2 := fun x y H Q => ∃ d e, Dp K H x d ∧ Dp K H y e ∧ okD d e ∧ Q (.bl (PySem.W.dataLt e d)) H
def rLeP (K : PySem.W.Frag) : R2 := fun x y H Q => ∃ d e, Dp K H x d ∧ Dp K H y e ∧ okD d e ∧ Q (.bl (!PySem.W.dataLt e d)) H
theorem oP_lt (e : X.K = K) (hu : X.A.units + 64 < cLine) : OpR X (compareOp .Lt) (rLtP K) := by
  subst e
  intro pins s σ H x y v u Q I rx ry h
  obtain ⟨d, e, hd, he, ⟨h1, h2, h3⟩, q⟩ := h
  obtain ⟨as, r1⟩ := Dp.reads I d x v hd rx
  obtain ⟨bs, r2⟩ := Dp.reads I e y u he ry
  exact PySem.W.lt_data r1 r2 h1 h2 (by have := Nat.min_le_left d.depth e.depth; omega) ⟨.bl _, H, I, rfl, q⟩
theorem oP_ge (e : X.K = K) (hu : X.A.units + 64 < cLine) : OpR X (compareOp .GtE) (rGeP K) := by
  subst e
  intro pins s σ H x y v u Q I rx ry h
  obtain ⟨d, e, hd, he, ⟨h1, h2, h3⟩, q⟩ := h
  obtain ⟨as, r1⟩ := Dp.reads I d x v hd rx
  obtain ⟨bs, r2⟩ := Dp.reads I e y u he ry
  exact PySem.W.ge_data r1 r2 h1 h2 (by have := Nat.min_le_left d.depth e.depth; omega) ⟨.bl _, H, I, rfl, q⟩
theorem oP_gt (e : X.K = K) (hu : X.A.units + 64 < cLine) : OpR X (compareOp .Gt) (rGtP K) := by
  subst e
  intro pins s σ H x y v u Q I rx ry h
  obtain ⟨d, e, hd, he, ⟨h1, h2, h3⟩, q⟩ := h
  obtain ⟨as, r1⟩ := Dp.reads I d x v hd rx
  obtain ⟨bs, r2⟩ := Dp.reads I e y u he ry
  exact PySem.W.gt_data r1 r2 h1 h2 (by have := Nat.min_le_left d.depth e.depth; omega) ⟨.bl _, H, I, rfl, q⟩
theorem oP_le (e : X.K = K) (hu : X.A.units + 64 < cLine) : OpR X (compareOp .LtE) (rLeP K) := by
  subst e
  intro pins s σ H x y v u Q I rx ry h
  obtain ⟨d, e, hd, he, ⟨h1, h2, h3⟩, q⟩ := h
  obtain ⟨as, r1⟩ := Dp.reads I d x v hd rx
  obtain ⟨bs, r2⟩ := Dp.reads I e y u he ry
  exact PySem.W.le_data r1 r2 h1 h2 (by have := Nat.min_le_left d.depth e.depth; omega) ⟨.bl _, H, I, rfl, q⟩
/-- no dict within, not too deep -/
def pln (d : PyData) : Prop := d.plain = true ∧ d.depth ≤ 32
def rEqP (K : PySem.W.Frag) : R2 := fun x y H Q => ∃ d e, Dp K H x d ∧ Dp K H y e ∧ pln d ∧ pln e ∧ Q (.bl (PyData.eqv d e)) H
def rNeP (K : PySem.W.Frag) : R2 := fun x y H Q => ∃ d e, Dp K H x d ∧ Dp K H y e ∧ pln d ∧ pln e ∧ Q (.bl (!PyData.eqv d e)) H
theorem oP_eq (e : X.K = K) (hu : X.A.units + 64 < cLine) : OpR X (compareOp .Eq) (rEqP K) := by
  subst e
  intro pins s σ H x y v u Q I rx ry h
  obtain ⟨d, e, hd, he, ⟨h1, h3⟩, ⟨h2, _⟩, q⟩ := h
  obtain ⟨as, r1⟩ := Dp.reads I d x v hd rx
  obtain ⟨bs, r2⟩ := Dp.reads I e y u he ry
  exact PySem.SeqAt.eq_plain r1 r2 h1 h2 (by have := Nat.min_le_left d.depth e.depth; omega) ⟨.bl _, H, I, rfl, q⟩
theorem oP_ne (e : X.K = K) (hu : X.A.units + 64 < cLine) : OpR X (compareOp .NotEq) (rNeP K) := by
  subst e
  intro pins s σ H x y v u Q I rx ry h
  obtain ⟨d, e, hd, he, ⟨h1, h3⟩, ⟨h2, _⟩, q⟩ := h
  obtain ⟨as, r1⟩ := Dp.reads I d x v hd rx
  obtain ⟨bs, r2⟩ := Dp.reads I e y u he ry
  exact PySem.SeqAt.ne_plain r1 r2 h1 h2 (by have := Nat.min_le_left d.depth e.depth; omega) ⟨.bl _, H, I, rfl, q⟩
def rInP (K : PySem.W.Frag) (neg : Bool) : R2 := fun x y H Q => ∃ d ds, Dp K H x d ∧ (Dp K H y (.list ds) ∨ Dp K H y (.tuple ds)) ∧ pln d ∧ PyData.plainAll ds = true ∧ Q (.bl (if neg then !(ds.any fun z => PyData.eqv z d) else ds.any fun z => PyData.eqv z d)) H
theorem oP_in (e : X.K = K) (hu : X.A.units + 64 < cLine) : OpR X (compareOp .In) (rInP K false) := by
  subst e
  intro pins s σ H x y v u Q I rx ry h
  obtain ⟨d, ds, hd, he, ⟨h1, h3⟩, h2, q⟩ := h
  obtain ⟨as, r1⟩ := Dp.reads I d x v hd rx
  rcases he with he | he
  · obtain ⟨bs, r2⟩ := Dp.reads I _ y u he ry
    exact PySem.SeqAt.in_list_data r2 r1 h2 h1 (by have := Nat.min_le_right (PyData.depthAll ds) d.depth; omega) ⟨.bl _, H, I, rfl, q⟩
  · obtain ⟨bs, r2⟩ := Dp.reads I _ y u he ry
    exact PySem.SeqAt.in_tuple_data r2 r1 h2 h1 (by have := Nat.min_le_right (PyData.depthAll ds) d.depth; omega) ⟨.bl _, H, I, rfl, q⟩
theorem oP_nin (e : X.K = K) (hu : X.A.units + 64 < cLine) : OpR X (compareOp .NotIn) (rInP K true) := by
  subst e
  intro pins s σ H x y v u Q I rx ry h
  obtain ⟨d, ds, hd, he, ⟨h1, h3⟩, h2, q⟩ := h
  obtain ⟨as, r1⟩ := Dp.reads I d x v hd rx
  rcases he with he | he
  · obtain ⟨bs, r2⟩ := Dp.reads I _ y u he ry
    exact PySem.SeqAt.notIn_list_data r2 r1 h2 h1 (by have := Nat.min_le_right (PyData.depthAll ds) d.depth; omega) ⟨.bl _, H, I, rfl, q⟩
  · obtain ⟨bs, r2⟩ := Dp.reads I _ y u he ry
    exact PySem.SeqAt.notIn_tuple_data r2 r1 h2 h1 (by have := Nat.min_le_right (PyData.depthAll ds) d.depth; omega) ⟨.bl _, H, I, rfl, q⟩
/-- sorted(xs) of data -/
def rSortedP (K : PySem.W.Frag) : List V → Hp → VK → Prop := fun vs H Q => ∃ (a : Addr) (xs : List V) (ds : List PyData), vs = [.ref a] ∧ SqL K H a xs ∧ DpAll K H xs ds ∧ PySem.W.AllAlike ds ∧ PySem.W.Sortable ds ∧ (∀ d ∈ ds, d.depth ≤ 32) ∧
  ∀ ys p, DpAll K H ys (ds.mergeSort (PySem.W.dataLe false fun d => d)) → H p = none → Q (.ref p) (upd H p (.lst ys))
theorem each_of {H : Hp} : ∀ {xs : List V} {us : List Value} {ds : List PyData}, Vals xs us → DpAll K H xs ds → PySem.W.EachIs (fun u d => ∃ v, RelV v u ∧ Dp K H v d) us ds
  | _, _, _, .nil, .nil => .nil
  | _, _, _, .cons r rs, .cons h hs => .cons ⟨_, r, h⟩ (each_of rs hs)
theorem of_each {H : Hp} : ∀ {us : List Value} {ds : List PyData}, PySem.W.EachIs (fun u d => ∃ v, RelV v u ∧ Dp K H v d) us ds → ∃ xs, Vals xs us ∧ DpAll K H xs ds
  | _, _, .nil => ⟨[], .nil, .nil⟩
  | _, _, .cons ⟨v, r, h⟩ t => by
    obtain ⟨xs, rs, hs⟩ := of_each t
    exact ⟨v :: xs, .cons r rs, .cons h hs⟩
theorem each_mono {α β : Type} {R S : α → β → Prop} (k : ∀ a b, R a b → S a b) : ∀ {xs : List α} {ys : List β}, PySem.W.EachIs R xs ys → PySem.W.EachIs S xs ys
  | _, _, .nil => .nil
  | _, _, .cons h t => .cons (k _ _ h) (each_mono k t)
theorem dpAll_len {H : Hp} : ∀ {xs : List V} {ds : List PyData}, DpAll K H xs ds → xs.length = ds.length
  | _, _, .nil => rfl
  | _, _, .cons _ t => congrArg Nat.succ (dpAll_len t)
theorem cP_sorted (e : X.K = K) (hu : X.A.units + 64 < cLine) : CallR X (.builtin "sorted") (rSortedP K) := by
  subst e
  intro pins s σ H vs us Q I r h
  obtain ⟨a, xs, ds, rfl, hs, hd, ha, hk, hdep, q⟩ := h
  obtain ⟨its, rv, hl, hz⟩ := I.list hs
  rw [Vals.ref1 r]
  have e1 := each_of rv hd
  have ln : ds.length ≤ sizeLine := by rw [← dpAll_len hd]; exact hz
  refine PySem.W.sorted_data (enc := fun d => d) hl.isList e1 (each_mono (fun u d ⟨v, rv, hv⟩ => Dp.reads I d v u hv rv) e1) (by rw [List.map_id']; exact ha) (by rw [List.map_id']; exact hk) ln (fun d hm => by have := hdep d hm; omega) fun out ho h1 => ?_
  obtain ⟨ys, rv2, hy⟩ := of_each h1
  obtain ⟨ep, he'⟩ := PyProof.Rows.sortedAll_at s.heap its (List.toArray out)
  have hlen : ys.length ≤ sizeLine := by rw [rv2.length, ho]; exact ln
  exact ⟨.ref _, upd H (s.heap.objs.size + 1) (.lst ys), I.laid (t' := s.toks) (fun _ _ => PyProof.Rows.sortedAll_old) (Nat.le_succ _) ⟨hlen, out, ep, rv2, he'⟩, rfl, q ys _ hy (I.hok.fresh (Nat.le_succ _))⟩
/-- xs.extend(t), t a tuple -/
def rExtendT (K : PySem.W.Frag) : V → List V → Hp → VK → Prop := fun x vs H Q => ∃ l b xs zs, x = .ref l ∧ vs = [.ref b] ∧ H l = some (.lst xs) ∧ SqT K H b zs ∧ xs.length + zs.length ≤ sizeLine ∧ Q .non (upd H l (.lst (xs ++ zs)))
end
end Sl
namespace Sl
open PySem PySem.Spec PyProof.Rows L2
theorem ext_tup (l b : Addr) (zs ws : Array Value) (n m : Nat) (dd : Option Addr) (sl : Array (Option Value)) (hs0 : ¬(!zs.isEmpty && Builtin.List.listTooLong (zs.size + ws.size)) = true) (hs1 : zs.size ≤ sizeLine) (hs2 : zs.size + ws.size ≤ sizeLine + 1) :
    Meets (Builtin.«list.extend» ⟨[.ref l, .ref b], []⟩) (fun _ R s => s.heap.get? l = some { cls := .type "list", dict := none, data := .seq zs n, slots := #[] } ∧ s.heap.get? b = some { cls := .type "tuple", dict := dd, data := .seq ws m, slots := sl } ∧
      R (.ok (.ret Value.none)) { s with heap := s.heap.update l (Obj.mapSeq fun x => x ++ ws) }) :=
  .of_wp fun prog w A R s h => by
    obtain ⟨hp, g, d, tk, os⟩ := s
    obtain ⟨hl, hb, h⟩ := h
    have f1 := AutoSeq1.idx_int; have f2 := AutoSeq1.sub_tuple_tuple; have f3 := AutoSeq1.sub_list_list
    have f4 := AutoSeq1.sub_tuple_list; have f5 := AutoSeq1.sub_list_tuple
    have hz' : (zs ++ ws).size ≤ sizeLine + 1 := by rw [Array.size_append]; exact hs2
    wp_walk using (wpAny_updateSeq hl rfl (hz := hs1) (_hz' := hz')), AutoSeq1.wpAny_loadPart' hl, AutoSeq1.wpAny_loadPart' hb
    exact ⟨_, rfl, h⟩
section
variable {X : Cx} {K : PySem.W.Frag}
theorem mt_extendT (e : X.K = K) : MtM X "list.extend" (rExtendT K) := by
  subst e
  intro pins s σ H x vs v us Q I rx rv h
  obtain ⟨l, b, xs, zs, rfl, rfl, hH, hB, hz, q⟩ := h
  cases rx
  obtain ⟨u, rfl, ru⟩ := rv.one
  cases ru
  obtain ⟨z, its, n, r, hl, e⟩ := I.lstM hH
  obtain ⟨its2, r2, ⟨o2, e2, c2, n2, d2⟩, hz2⟩ := I.tuple hB
  obtain ⟨oc, od, dt, sl⟩ := o2
  simp only at c2 d2
  subst c2 d2
  have l1 := r.length
  have l2 := r2.length
  have hsz : its.toArray.size + its2.toArray.size ≤ sizeLine := by rw [List.size_toArray, List.size_toArray]; omega
  have hlong : ¬ (!its.toArray.isEmpty && Builtin.List.listTooLong (its.toArray.size + its2.toArray.size)) = true := by
    rw [notLongL hsz, Bool.and_false]
    exact Bool.false_ne_true
  refine call_meets F.slot_list_extend ⟨_, e, rfl⟩ F.entry_list_extend (F.args_list_extend_2 _ _) (ext_tup l b its.toArray its2.toArray n n2 od sl hlong (by rw [List.size_toArray]; omega) (by omega)) ⟨e, e2, ?_⟩
  refine ⟨.non, _, I.lset (its' := its ++ its2) hH e (by simp) (r.append r2) ?_, rfl, q⟩
  rw [List.length_append]
  omega
end
end Sl
namespace Sl
open PySem PySem.Spec PyProof.Rows L2
theorem sortsAt_short {prog : Program} {w : World} {A : Around} {s : Shared} {vs : List Value} {ds : List PyData} (e : PySem.W.EachIs (fun v d => ∃ as, Reads s.heap v d as) vs ds) (hal : PySem.W.AllAlike ds) (h1 : ds.length ≤ 1) (hn : ∀ d ∈ ds, d ≠ .none) (hu : ∀ d, d ∈ ds → A.units + d.depth < cLine) : PySem.W.SortsAt prog w A s (PySem.W.dataKind s.heap ds) vs := by
  refine ⟨fun v hv => ?_, general', fun E x y a b Q ha hb hq => ?_, fun h2 => ?_⟩
  · obtain ⟨d, hd, as, r⟩ := e.left v hv
    exact ⟨_, PySem.W.dataKind_some hal hd r⟩
  · obtain ⟨d, as, hd, ra, rfl⟩ := PySem.W.dataKind_inv ha
    obtain ⟨d', as', hd', rb, rfl⟩ := PySem.W.dataKind_inv hb
    exact PySem.W.oneLt_alike (f := false) (fun z => Bool.noConfusion z) ra rb (hal d hd d' hd') (hn d hd) (Nat.lt_of_le_of_lt (Nat.add_le_add_left (Nat.min_le_left _ _) _) (hu d hd)) hq
  · have := e.length
    omega
section
variable {X : Cx} {K : PySem.W.Frag}
def rSortedQ (K : PySem.W.Frag) : List V → Hp → VK → Prop := fun vs H Q => ∃ (a : Addr) (xs : List V) (ds : List PyData), vs = [.ref a] ∧ SqL K H a xs ∧ DpAll K H xs ds ∧ PySem.W.AllAlike ds ∧ (PySem.W.Sortable ds ∨ (ds.length ≤ 1 ∧ ∀ d ∈ ds, d ≠ .none)) ∧ (∀ d ∈ ds, d.depth ≤ 32) ∧
  ∀ ys p, DpAll K H ys (ds.mergeSort (PySem.W.dataLe false fun d => d)) → H p = none → Q (.ref p) (upd H p (.lst ys))
theorem cQ_sorted (e : X.K = K) (hu : X.A.units + 64 < cLine) : CallR X (.builtin "sorted") (rSortedQ K) := by
  subst e
  intro pins s σ H vs us Q I r h
  obtain ⟨a, xs, ds, rfl, hs, hd, ha, hk, hdep, q⟩ := h
  obtain ⟨its, rv, hl, hz⟩ := I.list hs
  rw [Vals.ref1 r]
  have e1 := each_of rv hd
  have ln : ds.length ≤ sizeLine := by rw [← dpAll_len hd]; exact hz
  have fin : ∀ out : List Value, out.length = ds.length → PySem.W.EachIs (fun u d => ∃ v, RelV v u ∧ Dp X.K H v d) out (ds.mergeSort (PySem.W.dataLe false fun d => d)) → ∃ v H', Inv X pins σ H' { s with heap := PyProof.Rows.sortedAll s.heap its (List.toArray out) } ∧ RelV v (.ref (s.heap.objs.size + 1)) ∧ Q v H' := fun out ho h1 => by
    obtain ⟨ys, rv2, hy⟩ := of_each h1
    obtain ⟨ep, he'⟩ := PyProof.Rows.sortedAll_at s.heap its (List.toArray out)
    have hlen : ys.length ≤ sizeLine := by rw [rv2.length, ho]; exact ln
    exact ⟨.ref _, upd H (s.heap.objs.size + 1) (.lst ys), I.laid (t' := s.toks) (fun _ _ => PyProof.Rows.sortedAll_old) (Nat.le_succ _) ⟨hlen, out, ep, rv2, he'⟩, rfl, q ys _ hy (I.hok.fresh (Nat.le_succ _))⟩
  rcases hk with hk | ⟨hk, hn⟩
  · exact PySem.W.sorted_data (enc := fun d => d) hl.isList e1 (each_mono (fun u d ⟨v, rv, hv⟩ => Dp.reads I d v u hv rv) e1) (by rw [List.map_id']; exact ha) (by rw [List.map_id']; exact hk) ln (fun d hm => by have := hdep d hm; omega) fin
  · have er' : PySem.W.EachIs (fun v b => ∃ as, Reads (PySem.W.sortingHeap (PySem.W.copyHeap s.heap its) (s.heap.objs.size + 1) its) v b as) its ds := each_mono (fun v b ⟨as, r⟩ => ⟨as, PyProof.Rows.Reads.keeps (fun _ _ => PySem.W.sorting_copy_old) r⟩) (each_mono (fun u d ⟨v, rv, hv⟩ => Dp.reads I d v u hv rv) e1)
    refine PySem.W.sorted_vals hl.isList (sortsAt_short (s := { s with heap := PySem.W.sortingHeap (PySem.W.copyHeap s.heap its) (s.heap.objs.size + 1) its }) er' ha hk hn (fun d hm => by have := hdep d hm; show _ + 2 + _ < _; omega)) (by rw [e1.length]; exact ln)
      (fin _ (by rw [PySem.W.sortVals_length false rfl]; exact e1.length) ?_)
    have := PySem.W.sortVals_data (h' := PySem.W.sortingHeap (PySem.W.copyHeap s.heap its) (s.heap.objs.size + 1) its) (enc := fun d : PyData => d) false e1 er' (by rw [List.map_id']; exact ha)
    rw [List.map_id'] at this
    exact this
end
end Sl
namespace Sl
open PySem PySem.Spec PyProof.Rows L2
local macro_rules | `(tactic| walk_at "nin") => `(tactic| first | assumption | exact List.not_mem_nil | (simp only [List.mem_cons, List.not_mem_nil, not_or, or_false, not_false_eq_true, and_true]; first | assumption | walk_at "ne" | (refine ⟨?_, ?_⟩ <;> walk_at "ne") | (refine ⟨?_, ?_, ?_⟩ <;> walk_at "ne")))
local macro_rules | `(tactic| walk_at "ne") => `(tactic| first | assumption | exact Ne.symm (by assumption) | (refine Fr.ne ?_ ?_ <;> first | assumption | walk_at "hp") | (refine Ne.symm (Fr.ne ?_ ?_) <;> first | assumption | walk_at "hp"))
local macro_rules | `(tactic| walk_at "hp") => `(tactic| first
  | assumption
  | exact upd_same
  | (refine Eq.trans (upd_ne ?_) ?_ <;> first | walk_at "hp" | walk_at "ne")
  | (refine Kp.get (by assumption) ?_ ?_ <;> first | walk_at "hp" | exact .inr rfl | exact .inl List.not_mem_nil | (refine .inl ?_; walk_at "nin")))
local macro_rules | `(tactic| walk_at "sl") => `(tactic| first | assumption | (refine .inl (.inl ?_); walk_at "hp") | (refine Kp.sqL (by assumption) ?_ ?_ <;> first | walk_at "sl" | walk_at "nin") | (refine Kp.sqL (Kp.new (by assumption)) (A := []) List.not_mem_nil ?_; walk_at "sl"))
local macro_rules | `(tactic| walk_at "rd") => `(tactic| first
  | refine ⟨_, rfl, ?_⟩
  | refine ⟨_, _, rfl, rfl, ?_⟩
  | refine ⟨_, _, rfl, rfl, (by first | decide | omega), ?_⟩
  | refine .inl ⟨_, rfl, ?_⟩
  | refine ⟨rfl, ?_⟩
  | refine ⟨_, _, _, _, rfl, rfl, (by walk_at "sl"), rfl, ?_⟩)
local macro_rules | `(tactic| walk_at "rds") => `(tactic| repeat (walk_at "rd"))
local macro_rules | `(tactic| walk_at "vl") => `(tactic| first
  | exact vl_c
  | exact vl_var rfl
  | (refine' vl_op ?h1 ?h2 ?h3; (case h1 => walk_at "vl"); (case h2 => walk_at "vl"); (case h3 => walk_at "rl"))
  | (refine' vl_un ?h1 ?h3; (case h1 => walk_at "vl"); (case h3 => walk_at "rl"))
  | (refine' vl_cb1 ?h1 ?h3; (case h1 => walk_at "vl"); (case h3 => walk_at "rl"))
  | (refine' vl_cb2 ?h1 ?h2 ?h3; (case h1 => walk_at "vl"); (case h2 => walk_at "vl"); (case h3 => walk_at "rl"))
  | (refine' vl_not ?h1; (case h1 => walk_at "vl"))
  | (refine' vl_andV ?h1 ?h2; (case h1 => walk_at "vl"); (case h2 => intro _; walk_at "vl"))
  | (refine' vl_orV ?h1 ?h2; (case h1 => walk_at "vl"); (case h2 => intro _; walk_at "vl"))
  | (refine' vl_chain ?h1 ?h2 ?h3 ?h4 ?h5; (case h1 => walk_at "vl"); (case h2 => walk_at "vl"); (case h4 => walk_at "rl"); (case h3 => intro _; walk_at "vl"); (case h5 => intro _; walk_at "rl")))
local macro_rules | `(tactic| walk_at "rl") => `(tactic| (intro Q' q'; first
  | exact ⟨_, _, rfl, rfl, q'⟩
  | exact ⟨rfl, q'⟩
  | exact ⟨_, rfl, q'⟩
  | exact .inl ⟨_, rfl, q'⟩
  | exact ⟨_, _, _, _, rfl, rfl, (by assumption), rfl, q'⟩
  | exact ⟨_, _, rfl, .inr ⟨_, by assumption, rfl⟩, q'⟩
  | exact ⟨_, _, rfl, .inl ⟨_, by assumption, rfl⟩, q'⟩
  | exact ⟨_, rfl, (by first | assumption | exact sz (by assumption) | exact sz (by omega)), q'⟩
  | exact ⟨_, _, rfl, rfl, (by first | assumption | exact ⟨by omega, by omega⟩ | (show (0 : Int) < _; omega) | exact .inl ⟨by omega, by omega⟩ | exact .inr ⟨by omega, by omega⟩), q'⟩))
local macro_rules | `(tactic| walk_at "an") => `(tactic| first
  | (refine' an_and ?h1 ?h2; (case h1 => walk_at "an"); (case h2 => intro _; walk_at "an"))
  | (refine' an_or ?h1 ?h2; (case h1 => walk_at "an"); (case h2 => intro _; walk_at "an"))
  | (refine' an_not ?h1; (case h1 => walk_at "an"))
  | (refine' an_cmp ?h1 ?h2 ?h3; (case h1 => walk_at "vl"); (case h2 => walk_at "vl"); (case h3 => walk_at "rl"))
  | (refine' an_val ?h1; (case h1 => walk_at "vl"))
  | (refine' an_test ?h1; (case h1 => walk_at "vl")))
local macro_rules | `(tactic| walk_at "if") => `(tactic| ((try refine gnK ?_); (first | refine' seq_if0 ?h ?k1 ?k2 | refine' seq_if ?h ?k1 ?k2 | refine' if_an ?h ?k1 ?k2); (case h => walk_at "an")))
local macro_rules | `(tactic| walk_at "st") => `(tactic| ((try refine gnK ?_); first | refine seq_setK ?_ | refine setK ?_ | refine seq_dropK ?_ | refine dropK' ?_ | refine seq_ifK0 ?_ | refine seq_ifK ?_ | refine if_anK ?_ | refine retK ?_ | refine nextK ?_))
local macro_rules | `(tactic| walk_at "set") => `(tactic| (refine' seq_set ?h ?k; (case h => walk_at "vl")))
theorem asB {Q : VK} {b b' : Bool} {H : Hp} (q : Q (.bl b) H) (e : b = b') : Q (.bl b') H := e ▸ q
/-- the keys of a dict of texts -/
def keysOf (kvs : List (Key × V)) : List Key := kvs.map (·.1)
theorem nd_putKA {kvs : List (Key × V)} {k : Key} (v : V) (h : (keysOf kvs).Nodup) : (keysOf (putK kvs k v)).Nodup := by
  cases e : valV kvs k with
  | none => exact nd_putK v h e
  | some x =>
    have a : (kvs.any fun kv => decide (kv.1 = k)) = true := by rw [valV_any, e]; rfl
    have e2 : keysOf (putK kvs k v) = keysOf kvs := by
      unfold putK keysOf
      rw [if_pos a, List.map_map]
      refine List.map_congr_left fun p _ => ?_
      show (if p.1 = k then (p.1, v) else p).1 = p.1
      split <;> rfl
    rw [e2]; exact h
theorem keys_put {kvs : List (Key × V)} {k : Key} {v : V} : (∀ x, x ∈ keysOf (putK kvs k v) ↔ x ∈ keysOf kvs ∨ x = k) := by
  intro x
  have e : ∀ l : List (Key × V), x ∈ keysOf l ↔ (valV l x).isSome = true := fun l => by
    rw [← valV_any, List.any_eq_true, keysOf, List.mem_map]
    constructor
    · rintro ⟨p, hp, rfl⟩; exact ⟨p, hp, by simp⟩
    · rintro ⟨p, hp, h⟩; exact ⟨p, hp, by simpa using h⟩
  rw [e, e, valV_put]
  by_cases h : x = k
  · simp [h]
  · simp [h]
structure Mgd (kvs : List (Key × V)) (xs : List Str) : Prop where
  nd : (keysOf kvs).Nodup
  mem : ∀ x : Key, x ∈ keysOf kvs ↔ ∃ s ∈ xs, x = Sum.inr s
theorem Mgd.put {kvs : List (Key × V)} {xs : List Str} {s : Str} {v : V} (m : Mgd kvs xs) : Mgd (putK kvs (Sum.inr s) v) (xs ++ [s]) := by
  refine ⟨nd_putKA _ m.nd, fun x => ?_⟩
  rw [keys_put, m.mem]
  constructor
  · rintro (⟨t, ht, rfl⟩ | rfl)
    · exact ⟨t, List.mem_append_left _ ht, rfl⟩
    · exact ⟨s, List.mem_append_right _ (List.mem_singleton.mpr rfl), rfl⟩
  · rintro ⟨t, ht, rfl⟩
    rcases List.mem_append.mp ht with h | h
    · exact .inl ⟨t, h, rfl⟩
    · rw [List.mem_singleton.mp h]; exact .inr rfl
theorem Mgd.keys {kvs : List (Key × V)} {xs : List Str} (m : Mgd kvs xs) : ∃ ks : List Str, keysOf kvs = ks.map Sum.inr ∧ ks.Nodup ∧ ∀ s, s ∈ ks ↔ s ∈ xs := by
  have go : ∀ l : List Key, l.Nodup → (∀ x ∈ l, ∃ s, x = Sum.inr s) → ∃ ks : List Str, l = ks.map Sum.inr ∧ ks.Nodup := by
    intro l
    induction l with
    | nil => exact fun _ _ => ⟨[], rfl, List.nodup_nil⟩
    | cons x l ih =>
      intro nd h
      obtain ⟨s, rfl⟩ := h x (List.mem_cons_self ..)
      obtain ⟨ks, e, n⟩ := ih (List.nodup_cons.mp nd).2 fun y hy => h y (List.mem_cons_of_mem _ hy)
      refine ⟨s :: ks, by rw [e]; rfl, List.nodup_cons.mpr ⟨fun hm => (List.nodup_cons.mp nd).1 (by rw [e]; exact List.mem_map_of_mem hm), n⟩⟩
  obtain ⟨ks, e, n⟩ := go _ m.nd fun x hx => by
    obtain ⟨s, _, rfl⟩ := (m.mem x).mp hx
    exact ⟨s, rfl⟩
  refine ⟨ks, e, n, fun s => ?_⟩
  have h := m.mem (Sum.inr s)
  rw [e] at h
  constructor
  · intro hs
    obtain ⟨t, ht, q⟩ := h.mp (List.mem_map_of_mem hs)
    cases q; exact ht
  · intro hs
    obtain ⟨t, ht, q⟩ := List.mem_map.mp (h.mpr ⟨s, hs, rfl⟩)
    cases q; exact ht
theorem nodup_short : ∀ {l m : List Str}, l.Nodup → (∀ x ∈ l, x ∈ m) → l.length ≤ m.length
  | [], _, _, _ => Nat.zero_le _
  | x :: l, m, nd, h => by
    have hx := h x (List.mem_cons_self ..)
    have n := List.nodup_cons.mp nd
    have ih := nodup_short (m := m.erase x) n.2 fun y hy => (List.mem_erase_of_ne (fun e => by subst e; exact n.1 hy)).mpr (h y (List.mem_cons_of_mem _ hy))
    rw [List.length_erase_of_mem hx] at ih
    have : 0 < m.length := List.length_pos_of_mem hx
    simp only [List.length_cons]; omega
theorem mem_keys_len {kvs : List (Key × V)} {xs : List Str} (m : Mgd kvs xs) : kvs.length ≤ xs.length := by
  obtain ⟨ks, e, nd, h⟩ := m.keys
  have h1 : kvs.length = ks.length := by
    have := congrArg List.length e
    simpa [keysOf] using this
  rw [h1]
  exact nodup_short nd fun x hx => (h x).mp hx
section
variable {A B : List Addr} {K : PySem.W.Frag} {H H' : Hp} {v : V} {d : PyData}
/-- data of tuples alone stands whatever changes -/
theorem Dv.mv (f : flatT d = true) (k : Kp A H H') (h : Dv B K H v d) : Dv B K H' v d := Dv.any f (Dv.kp k (Dv.any (B := A) f h))
theorem DvAll.mv {vs : List V} {ds : List PyData} (f : flatTs ds = true) (k : Kp A H H') (h : DvAll B K H vs ds) : DvAll B K H' vs ds := DvAll.any f (DvAll.kp k (DvAll.any (B := A) f h))
mutual
theorem Dp.dv : ∀ {v : V} {d : PyData}, flatT d = true → Dp K H v d → Dv A K H v d
  | _, _, _, .non => .non
  | _, _, _, .bl b => .bl b
  | _, _, _, .int i => .int i
  | _, _, _, .str x => .str x
  | _, _, e, .lst h t => by simp [flatT] at e
  | _, _, e, .tup h t => .tup h (DpAll.dv (by simpa [flatT] using e) t)
theorem DpAll.dv : ∀ {vs : List V} {ds : List PyData}, flatTs ds = true → DpAll K H vs ds → DvAll A K H vs ds
  | _, _, _, .nil => .nil
  | _, _, e, .cons h t => by
    simp only [flatTs, Bool.and_eq_true] at e
    exact .cons (Dp.dv e.1 h) (DpAll.dv e.2 t)
end
end
theorem flatTs_app : ∀ {xs ys : List PyData}, flatTs (xs ++ ys) = (flatTs xs && flatTs ys)
  | [], ys => by simp [flatTs]
  | x :: xs, ys => by rw [List.cons_append, flatTs, flatTs, flatTs_app, Bool.and_assoc]
theorem plainAll_app : ∀ {xs ys : List PyData}, PyData.plainAll (xs ++ ys) = (PyData.plainAll xs && PyData.plainAll ys)
  | [], ys => by simp [PyData.plainAll]
  | x :: xs, ys => by rw [List.cons_append, PyData.plainAll, PyData.plainAll, plainAll_app, Bool.and_assoc]
theorem depthAll_app : ∀ {xs ys : List PyData}, PyData.depthAll (xs ++ ys) = max (PyData.depthAll xs) (PyData.depthAll ys)
  | [], ys => by simp [PyData.depthAll]
  | x :: xs, ys => by rw [List.cons_append, PyData.depthAll, PyData.depthAll, depthAll_app]; omega
theorem flatTs_of : ∀ {xs : List PyData}, (∀ x ∈ xs, flatT x = true) → flatTs xs = true
  | [], _ => rfl
  | x :: xs, h => by rw [flatTs, h x (List.mem_cons_self ..), flatTs_of fun y hy => h y (List.mem_cons_of_mem _ hy)]; rfl
theorem plainAll_of : ∀ {xs : List PyData}, (∀ x ∈ xs, PyData.plain x = true) → PyData.plainAll xs = true
  | [], _ => rfl
  | x :: xs, h => by rw [PyData.plainAll, h x (List.mem_cons_self ..), plainAll_of fun y hy => h y (List.mem_cons_of_mem _ hy)]; rfl
theorem depthAll_of {k : Nat} : ∀ {xs : List PyData}, (∀ x ∈ xs, PyData.depth x ≤ k) → PyData.depthAll xs ≤ k
  | [], _ => Nat.zero_le _
  | x :: xs, h => by
    rw [PyData.depthAll]
    have h1 := h x (List.mem_cons_self ..)
    have h2 := depthAll_of (k := k) fun y hy => h y (List.mem_cons_of_mem _ hy)
    omega
/-- such constraints as the law makes: tuples alone, of small depth -/
structure Gc (cs : List PyData) : Prop where
  f : flatTs cs = true
  p : PyData.plainAll cs = true
  d : PyData.depthAll cs ≤ 6
theorem Gc.nil : Gc [] := ⟨rfl, rfl, by decide⟩
theorem Gc.app {xs ys : List PyData} (h : Gc xs) (k : Gc ys) : Gc (xs ++ ys) := ⟨by rw [flatTs_app, h.f, k.f]; rfl, by rw [plainAll_app, h.p, k.p]; rfl, by rw [depthAll_app]; have := h.d; have := k.d; omega⟩
theorem Gc.flatten : ∀ {xss : List (List PyData)}, (∀ xs ∈ xss, Gc xs) → Gc xss.flatten
  | [], _ => .nil
  | xs :: xss, h => by
    rw [List.flatten_cons]
    exact (h xs (List.mem_cons_self ..)).app (Gc.flatten fun y hy => h y (List.mem_cons_of_mem _ hy))
theorem strs_flat (ns : List Str) : flatTs (ns.map .str) = true := flatTs_map (fun _ => rfl) ns
theorem strs_plain (ns : List Str) : PyData.plainAll (ns.map .str) = true := plainAll_of fun x hx => by
  obtain ⟨s, _, rfl⟩ := List.mem_map.mp hx; rfl
theorem strs_depth (ns : List Str) : PyData.depthAll (ns.map .str) ≤ 1 := depthAll_of fun x hx => by
  obtain ⟨s, _, rfl⟩ := List.mem_map.mp hx; simp [PyData.depth]
/-- the data of a theory -/
def thD (ns : List Str) (cs : List PyData) : PyData := .tuple [.tuple (ns.map .str), .tuple cs]
theorem thD_flat {ns : List Str} {cs : List PyData} (h : Gc cs) : flatT (thD ns cs) = true := by
  simp [thD, flatT, flatTs, strs_flat, h.f]
theorem thD_pln {ns : List Str} {cs : List PyData} (h : Gc cs) : pln (thD ns cs) := by
  have h1 := strs_depth ns
  have h2 := h.d
  refine ⟨by simp [thD, PyData.plain, PyData.plainAll, strs_plain, h.p], ?_⟩
  simp only [thD, PyData.depth, PyData.depthAll]
  omega
/-- a theory stands at v -/
structure Th (K : PySem.W.Frag) (H : Hp) (v : V) (ns : List Str) (cs : List PyData) : Prop where
  g : Gc cs
  dv : Dv [] K H v (thD ns cs)
theorem Th.kp {A : List Addr} {K : PySem.W.Frag} {H H' : Hp} {v : V} {ns : List Str} {cs : List PyData} (k : Kp A H H') (h : Th K H v ns cs) : Th K H' v ns cs := ⟨h.g, h.dv.mv (thD_flat h.g) k⟩
theorem Th.inv {K : PySem.W.Frag} {H : Hp} {v : V} {ns : List Str} {cs : List PyData} (h : Th K H v ns cs) : ∃ t x y cvs, v = .ref t ∧ SqT K H t [.ref x, .ref y] ∧ SqT K H x (ns.map V.str) ∧ SqT K H y cvs ∧ DvAll [] K H cvs cs := by
  obtain ⟨t, xs, rfl, ht, hd⟩ := h.dv.tup_inv
  cases hd with
  | cons h1 r1 =>
    cases r1 with
    | cons h2 r2 =>
      cases r2
      obtain ⟨x, xs, rfl, hx, dx⟩ := h1.tup_inv
      obtain ⟨y, ys, rfl, hy, dy⟩ := h2.tup_inv
      rw [dx.strs] at hx
      exact ⟨t, x, y, ys, rfl, ht, hx, hy, dy⟩
theorem Th.mk' {K : PySem.W.Frag} {H : Hp} {t x y : Addr} {ns : List Str} {cvs : List V} {cs : List PyData} (g : Gc cs) (ht : SqT K H t [.ref x, .ref y]) (hx : SqT K H x (ns.map V.str)) (hy : SqT K H y cvs) (hd : DvAll [] K H cvs cs) : Th K H (.ref t) ns cs :=
  ⟨g, .tup ht (.cons (.tup hx (dv_strs ns)) (.cons (.tup hy hd) .nil))⟩
theorem eqv_same {d : PyData} (h : pln d) : PyData.eqv d d = true := SeqAt.eqv_refl_plain _ h.1
def pool : List Str := ["a", "a.b", "a1", "ab", "b", "c.a.z9", "ca", "zzzzzzz9"]
theorem pool_asc : Asc pool := by
  unfold Asc pool
  decide +kernel
theorem asc_pool_len {ys : List Str} (h : Asc ys) (k : ∀ x ∈ ys, x ∈ pool) : ys.length ≤ 8 := nodup_short (m := pool) h.nodup k
theorem asc_len {ys m : List Str} (h : Asc ys) (k : ∀ x ∈ ys, x ∈ m) : ys.length ≤ m.length := nodup_short h.nodup k
theorem cut_take {xs : List V} {n : Nat} : cutV xs none (some (n : Int)) = xs.take n := by
  have e0 : HT.sIx xs.length 0 none = 0 := rfl
  have e1 : xs.take (HT.sIx xs.length xs.length (some (n : Int))) = xs.take n := by
    have : HT.sIx xs.length xs.length (some (n : Int)) = min n xs.length := HT.sIx_nat _ _ _
    rw [this]
    by_cases h : n ≤ xs.length
    · rw [Nat.min_eq_left h]
    · rw [Nat.min_eq_right (by omega), List.take_length, List.take_of_length_le (by omega)]
  unfold cutV
  rw [e0, List.drop_zero, Nat.sub_zero, e1]
def rowD (r : List Int) : PyData := .tuple (r.map .int)
theorem rowD_flat (r : List Int) : flatT (rowD r) = true := by
  simp only [rowD, flatT]
  exact flatTs_map (fun _ => rfl) r
theorem rowD_plain (r : List Int) : PyData.plain (rowD r) = true := by
  simp only [rowD, PyData.plain]
  exact plainAll_of fun x hx => by obtain ⟨s, _, rfl⟩ := List.mem_map.mp hx; rfl
theorem rowD_depth (r : List Int) : PyData.depth (rowD r) ≤ 3 := by
  have : PyData.depthAll (r.map .int) ≤ 1 := depthAll_of fun x hx => by obtain ⟨s, _, rfl⟩ := List.mem_map.mp hx; simp [PyData.depth]
  simp only [rowD, PyData.depth]; omega
theorem rowD_pln (r : List Int) : pln (rowD r) := ⟨rowD_plain r, Nat.le_trans (rowD_depth r) (by decide)⟩
theorem alike_ints : ∀ r r' : List Int, PySem.W.alikeAll (r.map .int) (r'.map .int) = true
  | [], _ => by simp [PySem.W.alikeAll]
  | _ :: _, [] => by simp [PySem.W.alikeAll]
  | x :: r, y :: r' => by simp [PySem.W.alikeAll, PySem.W.alike, alike_ints r r']
theorem rows_alike (rs : List (List Int)) : PySem.W.AllAlike (rs.map rowD) := by
  intro d hd d' hd'
  obtain ⟨r, _, rfl⟩ := List.mem_map.mp hd
  obtain ⟨r', _, rfl⟩ := List.mem_map.mp hd'
  simp only [rowD, PySem.W.alike]
  exact alike_ints r r'
theorem rows_sortable {rs : List (List Int)} (h : ∀ r ∈ rs, r ≠ []) : PySem.W.Sortable (rs.map rowD) := .inl fun d hd => by
  obtain ⟨r, hr, rfl⟩ := List.mem_map.mp hd
  cases r with
  | nil => exact absurd rfl (h _ hr)
  | cons x r => exact ⟨_, _, rfl⟩
/-- the sorted rows are such data as the rows -/
theorem rows_sorted (rs : List (List Int)) : ∀ d ∈ (rs.map rowD).mergeSort (PySem.W.dataLe false fun d => d), ∃ r ∈ rs, d = rowD r := fun d hd => by
  obtain ⟨r, hr, rfl⟩ := List.mem_map.mp ((List.mergeSort_perm _ _).mem_iff.mp hd)
  exact ⟨r, hr, rfl⟩
theorem not_in_take : ∀ {l : List Str} {i : Nat} {s : Str}, l.Nodup → l[i]? = some s → s ∉ l.take i
  | [], _, _, _, h => by simp at h
  | x :: l, 0, _, _, _ => by simp
  | x :: l, i + 1, s, nd, h => by
    have n := List.nodup_cons.mp nd
    have h' : l[i]? = some s := h
    rw [List.take_succ_cons, List.mem_cons, not_or]
    exact ⟨fun e => n.1 (by rw [← e]; exact List.mem_of_getElem? h'), not_in_take n.2 h'⟩
theorem flatten_le {α : Type} {k : Nat} : ∀ {xss : List (List α)}, (∀ xs ∈ xss, xs.length ≤ k) → xss.flatten.length ≤ k * xss.length
  | [], _ => by simp
  | xs :: xss, h => by
    have h1 := h xs (List.mem_cons_self ..)
    have h2 := flatten_le fun y hy => h y (List.mem_cons_of_mem _ hy)
    rw [List.flatten_cons, List.length_append, List.length_cons, Nat.mul_succ]; omega
/-- theories, one for each -/
def Ths (K : PySem.W.Frag) (H : Hp) : List V → List (List Str × List PyData) → Prop := All2 fun v d => Th K H v d.1 d.2
theorem Ths.kp {A : List Addr} {K : PySem.W.Frag} {H H' : Hp} {vs : List V} {ds : List (List Str × List PyData)} (k : Kp A H H') (h : Ths K H vs ds) : Ths K H' vs ds := All2.imp (fun _ _ t => t.kp k) h
theorem Ths.dv {K : PySem.W.Frag} {H : Hp} : ∀ {vs : List V} {ds : List (List Str × List PyData)}, Ths K H vs ds → DvAll [] K H vs (ds.map fun d => thD d.1 d.2)
  | [], [], _ => .nil
  | [], _ :: _, h => False.elim h
  | _ :: _, [], h => False.elim h
  | v :: vs, d :: ds, h => .cons h.1.dv (Ths.dv h.2)
theorem Ths.gc {K : PySem.W.Frag} {H : Hp} : ∀ {vs : List V} {ds : List (List Str × List PyData)}, Ths K H vs ds → ∀ d ∈ ds, Gc d.2
  | [], [], _ => fun _ h => nomatch h
  | [], _ :: _, h => False.elim h
  | _ :: _, [], h => False.elim h
  | v :: vs, d :: ds, h => fun e he => by
    rcases List.mem_cons.mp he with z | z
    · subst z; exact h.1.g
    · exact Ths.gc h.2 e z
theorem ths_pln {ds : List (List Str × List PyData)} (h : ∀ d ∈ ds, Gc d.2) : pln (.list (ds.map fun d => thD d.1 d.2)) := by
  refine ⟨by simp only [PyData.plain]; exact plainAll_of fun x hx => by obtain ⟨d, hd, rfl⟩ := List.mem_map.mp hx; exact (thD_pln (h d hd)).1, ?_⟩
  have : PyData.depthAll (ds.map fun d => thD d.1 d.2) ≤ 10 := depthAll_of fun x hx => by
    obtain ⟨d, hd, rfl⟩ := List.mem_map.mp hx
    have h1 := strs_depth d.1
    have h2 := (h d hd).d
    simp only [thD, PyData.depth, PyData.depthAll]; omega
  simp only [PyData.depth]; omega
theorem nm_pln (ns : List Str) : pln (.tuple (ns.map .str)) := by
  have := strs_depth ns
  exact ⟨by simp only [PyData.plain]; exact strs_plain ns, by simp only [PyData.depth]; omega⟩
theorem cs_pln {cs : List PyData} (h : Gc cs) : pln (.list cs) := by
  have := h.d
  exact ⟨by simp only [PyData.plain]; exact h.p, by simp only [PyData.depth]; omega⟩
theorem tyx_tup {K : PySem.W.Frag} {H : Hp} {a : Addr} {xs : List V} (h : SqT K H a xs) : TyX K H (.ref a) (.type "tuple") := by
  rcases h with (h | ⟨z, h⟩) | h
  · exact .base (.tup h)
  · exact .fTuple h
  · obtain ⟨o, its, n, h1, h2, _⟩ := h
    exact .kTuple h1 h2
theorem union_asc {m : List Str} : Asc (pool.filter fun x => decide (x ∈ m)) := pool_asc.sublist List.filter_sublist
theorem union_eq {ys m : List Str} (h : Asc ys) (hm : ∀ x, x ∈ ys ↔ x ∈ m) (hp : ∀ x ∈ m, x ∈ pool) : pool.filter (fun x => decide (x ∈ m)) = ys :=
  Asc.ext union_asc h fun x => by
    rw [List.mem_filter, hm]
    exact ⟨fun z => by simpa using z.2, fun z => ⟨hp x z, by simpa using z⟩⟩
/-- a dict of numbers with texts as keys -/
structure Tb (kvs : List (Key × V)) (xs : List Str) : Prop where
  m : Mgd kvs xs
  i : ∀ k v, valV kvs k = some v → ∃ i, v = .int i
theorem Tb.nil : Tb [] [] := ⟨⟨List.nodup_nil, fun x => by simp [keysOf]⟩, fun k v e => by cases e⟩
theorem Tb.put {kvs : List (Key × V)} {xs : List Str} {s : Str} {i : Int} (h : Tb kvs xs) : Tb (putK kvs (.inr s) (.int i)) (xs ++ [s]) := ⟨h.m.put, fun k v e => by
  rw [valV_put] at e
  split at e
  · cases e; exact ⟨i, rfl⟩
  · exact h.i k v e⟩
def fOf (kvs : List (Key × V)) (s : Str) : Int := match valV kvs (.inr s) with | some (.int i) => i | _ => 0
theorem isSome_key {kvs : List (Key × V)} {xs : List Str} (h : Mgd kvs xs) {s : Str} : (valV kvs (.inr s)).isSome = true ↔ s ∈ xs := by
  have h1 := h.mem (.inr s)
  rw [← valV_any, List.any_eq_true]
  constructor
  · rintro ⟨p, hp, e⟩
    have e' : p.1 = Sum.inr s := by simpa using e
    obtain ⟨t, ht, q⟩ := h1.mp (e' ▸ List.mem_map_of_mem hp)
    cases q; exact ht
  · intro hs
    obtain ⟨p, hp, e⟩ := List.mem_map.mp (h1.mpr ⟨s, hs, rfl⟩)
    exact ⟨p, hp, by simpa using e⟩
theorem Tb.f {kvs : List (Key × V)} {xs : List Str} (h : Tb kvs xs) {s : Str} (hs : s ∈ xs) : valV kvs (.inr s) = some (.int (fOf kvs s)) := by
  obtain ⟨v, hv⟩ := Option.isSome_iff_exists.mp ((isSome_key h.m).mpr hs)
  obtain ⟨i, rfl⟩ := h.i _ _ hv
  unfold fOf
  rw [hv]
def prs (f : Str → Int) (ys : List Str) : List PyData := ys.map fun s => .tuple [.str s, .int (f s)]
theorem prs_pln (f : Str → Int) (ys : List Str) : pln (.list (prs f ys)) := by
  have : PyData.depthAll (prs f ys) ≤ 3 := depthAll_of fun x hx => by
    obtain ⟨s, _, rfl⟩ := List.mem_map.mp hx
    simp [PyData.depth, PyData.depthAll]
  refine ⟨?_, by simp only [PyData.depth]; omega⟩
  simp only [PyData.plain]
  exact plainAll_of fun x hx => by
    obtain ⟨s, _, rfl⟩ := List.mem_map.mp hx
    simp [PyData.plain, PyData.plainAll]
theorem prs_flat (f : Str → Int) (ys : List Str) : flatTs (prs f ys) = true := flatTs_map (fun _ => by simp [flatT, flatTs]) ys
def topS (i : Nat) : Stmt := PySem.Challenge.pw_shadowlinks_k01_join_widen_restrict.main.body.getD i (.Pass ⟨0, 0, 0, 0⟩)
abbrev N_merge_names : List Str := ["lists", "found", "names", "name"]
theorem sc_merge_names : FnScope N_merge_names ["lists"] (defScope (topS 1)) := ⟨rfl, rfl, rfl, by decide +kernel, rfl, by decide +kernel, by decide +kernel⟩
abbrev N_join : List Str := ["theories", "names", "constraints", "theory"]
theorem sc_join : FnScope N_join ["theories"] (defScope (topS 3)) := ⟨rfl, rfl, rfl, by decide +kernel, rfl, by decide +kernel, by decide +kernel⟩
abbrev N_widen : List Str := ["theory", "names"]
theorem sc_widen : FnScope N_widen ["theory", "names"] (defScope (topS 4)) := ⟨rfl, rfl, rfl, by decide +kernel, rfl, by decide +kernel, by decide +kernel⟩
abbrev N_restrict : List Str := ["assignment", "names", "found", "name"]
theorem sc_restrict : FnScope N_restrict ["assignment", "names"] (defScope (topS 5)) := ⟨rfl, rfl, rfl, by decide +kernel, rfl, by decide +kernel, by decide +kernel⟩
abbrev N__law_source : List Str := ["_law_script", "_law_k", "_law_number"]
theorem sc__law_source : FnScope N__law_source ["_law_script", "_law_k"] (defScope (topS 7)) := ⟨rfl, rfl, rfl, by decide +kernel, rfl, by decide +kernel, by decide +kernel⟩
abbrev N__law_draw : List Str := ["_law_source_here", "_law_limit", "_law_number", "_law_mixed"]
theorem sc__law_draw : FnScope N__law_draw ["_law_source_here", "_law_limit"] (defScope (topS 8)) := ⟨rfl, rfl, rfl, by decide +kernel, rfl, by decide +kernel, by decide +kernel⟩
abbrev N__law_pool : List Str := []
theorem sc__law_pool : FnScope N__law_pool [] (defScope (topS 9)) := ⟨rfl, rfl, rfl, by decide +kernel, rfl, by decide +kernel, by decide +kernel⟩
abbrev N__law_some : List Str := ["_law_source_here", "_law_names", "_law_share", "_law_name"]
theorem sc__law_some : FnScope N__law_some ["_law_source_here", "_law_names", "_law_share"] (defScope (topS 10)) := ⟨rfl, rfl, rfl, by decide +kernel, rfl, by decide +kernel, by decide +kernel⟩
abbrev N__law_theory : List Str := ["_law_source_here", "_law_names", "_law_constraints", "_law_k", "_law_mentioned", "_law_rows", "_law_value", "_law_row"]
theorem sc__law_theory : FnScope N__law_theory ["_law_source_here"] (defScope (topS 11)) := ⟨rfl, rfl, rfl, by decide +kernel, rfl, by decide +kernel, by decide +kernel⟩
abbrev N__law_union : List Str := ["_law_lists", "_law_found", "_law_name", "_law_names"]
theorem sc__law_union : FnScope N__law_union ["_law_lists"] (defScope (topS 12)) := ⟨rfl, rfl, rfl, by decide +kernel, rfl, by decide +kernel, by decide +kernel⟩
abbrev N__law_join_right : List Str := ["_law_source_here", "_law_theories", "_law_passed", "_law_actual", "_law_expected", "_law_theory_here", "_law_constraint", "_law_k"]
theorem sc__law_join_right : FnScope N__law_join_right ["_law_source_here"] (defScope (topS 13)) := ⟨rfl, rfl, rfl, by decide +kernel, rfl, by decide +kernel, by decide +kernel⟩
abbrev N__law_widen_right : List Str := ["_law_source_here", "_law_theory_here", "_law_expected", "_law_actual", "_law_name"]
theorem sc__law_widen_right : FnScope N__law_widen_right ["_law_source_here"] (defScope (topS 14)) := ⟨rfl, rfl, rfl, by decide +kernel, rfl, by decide +kernel, by decide +kernel⟩
abbrev N__law_restrict_right : List Str := ["_law_source_here", "_law_named", "_law_values", "_law_name", "_law_kept", "_law_before", "_law_actual", "_law_expected", "_law_again", "_law_pair"]
theorem sc__law_restrict_right : FnScope N__law_restrict_right ["_law_source_here"] (defScope (topS 15)) := ⟨rfl, rfl, rfl, by decide +kernel, rfl, by decide +kernel, by decide +kernel⟩
abbrev N_law : List Str := ["_law_script"]
theorem sc_law : FnScope N_law ["_law_script"] (defScope (topS 16)) := ⟨rfl, rfl, rfl, by decide +kernel, rfl, by decide +kernel, by decide +kernel⟩
structure Txt (K : PySem.W.Frag) (mg : Str → Option Value) (A : Nat → Addr) (D : Nat → FuncData) : Prop where
  F_merge_names : Fun K "merge_names" "merge_names" (topS 1) (A 1) (D 1)
  g_merge_names : mg "merge_names" = some (.ref (A 1))
  F_join : Fun K "join" "join" (topS 3) (A 3) (D 3)
  g_join : mg "join" = some (.ref (A 3))
  b_join : Binds K (D 3) ["theories"] []
  F_widen : Fun K "widen" "widen" (topS 4) (A 4) (D 4)
  g_widen : mg "widen" = some (.ref (A 4))
  F_restrict : Fun K "restrict" "restrict" (topS 5) (A 5) (D 5)
  g_restrict : mg "restrict" = some (.ref (A 5))
  b_restrict : Binds K (D 5) ["assignment", "names"] []
  F__law_source : Fun K "_law_source" "_law_source" (topS 7) (A 7) (D 7)
  g__law_source : mg "_law_source" = some (.ref (A 7))
  b__law_source : Binds K (D 7) ["_law_script", "_law_k"] []
  F__law_draw : Fun K "_law_draw" "_law_draw" (topS 8) (A 8) (D 8)
  g__law_draw : mg "_law_draw" = some (.ref (A 8))
  b__law_draw : Binds K (D 8) ["_law_source_here", "_law_limit"] []
  F__law_pool : Fun K "_law_pool" "_law_pool" (topS 9) (A 9) (D 9)
  g__law_pool : mg "_law_pool" = some (.ref (A 9))
  b__law_pool : Binds K (D 9) [] []
  F__law_some : Fun K "_law_some" "_law_some" (topS 10) (A 10) (D 10)
  g__law_some : mg "_law_some" = some (.ref (A 10))
  b__law_some : Binds K (D 10) ["_law_source_here", "_law_names", "_law_share"] []
  F__law_theory : Fun K "_law_theory" "_law_theory" (topS 11) (A 11) (D 11)
  g__law_theory : mg "_law_theory" = some (.ref (A 11))
  b__law_theory : Binds K (D 11) ["_law_source_here"] []
  F__law_union : Fun K "_law_union" "_law_union" (topS 12) (A 12) (D 12)
  g__law_union : mg "_law_union" = some (.ref (A 12))
  b__law_union : Binds K (D 12) ["_law_lists"] []
  F__law_join_right : Fun K "_law_join_right" "_law_join_right" (topS 13) (A 13) (D 13)
  g__law_join_right : mg "_law_join_right" = some (.ref (A 13))
  b__law_join_right : Binds K (D 13) ["_law_source_here"] []
  F__law_widen_right : Fun K "_law_widen_right" "_law_widen_right" (topS 14) (A 14) (D 14)
  g__law_widen_right : mg "_law_widen_right" = some (.ref (A 14))
  b__law_widen_right : Binds K (D 14) ["_law_source_here"] []
  F__law_restrict_right : Fun K "_law_restrict_right" "_law_restrict_right" (topS 15) (A 15) (D 15)
  g__law_restrict_right : mg "_law_restrict_right" = some (.ref (A 15))
  b__law_restrict_right : Binds K (D 15) ["_law_source_here"] []
  F_law : Fun K "law" "law" (topS 16) (A 16) (D 16)
  g_law : mg "law" = some (.ref (A 16))
  b_law : Binds K (D 16) ["_law_script"] []
  z_len : mg "len" = none
  z_int : mg "int" = none
  z_list : mg "list" = none
  z_tuple : mg "tuple" = none
  z_dict : mg "dict" = none
  z_range : mg "range" = none
  z_sorted : mg "sorted" = none
  z_isinstance : mg "isinstance" = none
section
variable {P : Program} {w : World} {K : PySem.W.Frag} {mg : Str → Option Value} {base : Heap} {A : Nat → Addr} {D : Nat → FuncData}
def sp__law_source (K : PySem.W.Frag) : Sp := fun vs H Q _ => ∃ (a : Addr) (ns : List Int) (k : Nat), vs = [.ref a, .int (k : Int)] ∧ SqL K H a (ns.map V.int) ∧ ns.length ≤ 63 ∧
  ∀ p H', H p = none → Kp [] H H' → Src H' p → Q (.ref p) H'
theorem ok__law_source (T : Txt K mg A D) : FnOk P w K mg base CX0 1 (A 7) (D 7) ["_law_script", "_law_k"] (sp__law_source K) := by
  refine T.F__law_source.ok sc__law_source (fun vs H Q E h => ?_) (fun cdv A' outer s H vs Q E hr h => ?_)
  · obtain ⟨a, ns, k, rfl, hS, hl, q⟩ := h
    rfl
  · obtain ⟨a, ns, k, rfl, hS, hl, q⟩ := h
    have hu := hu_of hr
    refine ⟨_, (pss_cons (ps_set (i := 2) sc__law_source.nd rfl (Or.inl rfl) pe_int)
      (pss_cons (ps_if (pt_cmpR op_lt (pv 1) (pe_callB (id := "len") (cK_len (K := K) rfl) (by rfl) T.z_len (by decide +kernel) (pa_cons (pv 0) pa_nil)) (nomark _))
        (pss_one (ps_set (i := 2) sc__law_source.nd rfl (Or.inl rfl) (pe_callTy (T := "int") call_int1 (by rfl) T.z_int (by decide +kernel) (pa_cons (pe_ix (xK_list (K := K) rfl) (pv 0) (pv 1) (fun _ _ => rfl)) pa_nil))))
        pss_nil)
      (pss_one (ps_ret (pe_lst (pa_cons (pv 2) (pa_cons (pe_op op_add (pe_op op_mul pe_int (pv 1)) (pe_callB (id := "len") (cK_len (K := K) rfl) (by rfl) T.z_len (by decide +kernel) (pa_cons (pv 0) pa_nil))) pa_nil))))))), ?_⟩
    -- _law_number = 0; if _law_k < len(_law_script)
    refine ⟨_, rfl, _, rfl, _, ns.length, rfl, .inl ⟨_, hS, by rw [List.length_map]⟩, _, _, rfl, rfl, _, rfl, ?_⟩
    refine ite2 (fun c => ?_) (fun c => ?_)
    · have hk : k < ns.length := by simpa using c
      refine ⟨_, rfl, _, rfl, _, _, _, .int ns[k], rfl, rfl, hS, atI_nat (by simp [hk]), .inl ⟨_, rfl, ?_⟩⟩
      refine ⟨_, rfl, _, rfl, _, _, rfl, rfl, .inl ⟨by decide, by decide⟩, _, rfl, _, ns.length, rfl, .inl ⟨_, hS, by rw [List.length_map]⟩, _, _, rfl, rfl, sz (by simp), fun p hp => ?_⟩
      exact q p _ hp (Kp.new hp) ⟨_, _, upd_same⟩
    · refine ⟨_, rfl, _, rfl, _, _, rfl, rfl, .inl ⟨by decide, by decide⟩, _, rfl, _, ns.length, rfl, .inl ⟨_, hS, by rw [List.length_map]⟩, _, _, rfl, rfl, sz (by simp), fun p hp => ?_⟩
      exact q p _ hp (Kp.new hp) ⟨_, _, upd_same⟩
def sp__law_draw (K : PySem.W.Frag) : Sp := fun vs H Q _ => ∃ (a : Addr) (lim : Int), vs = [.ref a, .int lim] ∧ Src H a ∧ 0 < lim ∧ lim < 1073741824 ∧
  ∀ (r : Int) H', 0 ≤ r → r < lim → Kp [a] H H' → Src H' a → Q (.int r) H'
theorem ok__law_draw (T : Txt K mg A D) : FnOk P w K mg base CX0 1 (A 8) (D 8) ["_law_source_here", "_law_limit"] (sp__law_draw K) := by
  refine T.F__law_draw.ok sc__law_draw (fun vs H Q E h => ?_) (fun cdv A' outer s H vs Q E hr h => ?_)
  · obtain ⟨a, lim, rfl, ⟨n, c, hs⟩, h0, h1, q⟩ := h
    rfl
  · obtain ⟨a, lim, rfl, ⟨n, c, hs⟩, h0, h1, q⟩ := h
    have hu := hu_of hr
    refine ⟨_, (pss_cons (ps_set (i := 2) sc__law_draw.nd rfl (Or.inl rfl) (pe_ix (xK_list (K := K) rfl) (pv 0) pe_int (fun _ _ => rfl)))
      (pss_cons (ps_if (pt_cmpR op_ge (pv 2) (pe_op op_pow pe_int pe_int) (nomark _))
        (pss_cons (ps_asg (pe_op op_fdiv (pv 2) (pv 1)) (pg_sub (pv 0) pe_int set_list))
        (pss_one (ps_ret (pe_op op_mod (pe_callTy (T := "int") call_int1 (by rfl) T.z_int (by decide +kernel) (pa_cons (pv 2) pa_nil)) (pv 1)))))
        pss_nil)
      (pss_cons (ps_asg (pe_op op_add (pe_ix (xK_list (K := K) rfl) (pv 0) pe_int (fun _ _ => rfl)) pe_int) (pg_sub (pv 0) pe_int set_list))
      (pss_cons (ps_set (i := 3) sc__law_draw.nd rfl (Or.inl rfl) (pe_op op_mod (pe_callTy (T := "int") call_int1 (by rfl) T.z_int (by decide +kernel) (pa_cons (pe_op op_add (pe_op op_add (pe_op op_mul (pv 2) pe_int) (pe_op op_mul (pe_ix (xK_list (K := K) rfl) (pv 0) pe_int (fun _ _ => rfl)) pe_int)) pe_int) pa_nil)) pe_int))
      (pss_cons (ps_set (i := 3) sc__law_draw.nd rfl (Or.inl rfl) (pe_op op_mod (pe_callTy (T := "int") call_int1 (by rfl) T.z_int (by decide +kernel) (pa_cons (pe_op op_add (pe_op op_add (pe_op op_mul (pv 3) (pv 3)) (pv 2)) (pe_op op_mul (pe_ix (xK_list (K := K) rfl) (pv 0) pe_int (fun _ _ => rfl)) pe_int)) pa_nil)) pe_int))
      (pss_cons (ps_set (i := 3) sc__law_draw.nd rfl (Or.inl rfl) (pe_op op_mod (pe_callTy (T := "int") call_int1 (by rfl) T.z_int (by decide +kernel) (pa_cons (pe_op op_add (pe_op op_add (pe_op op_mul (pv 3) (pv 3)) (pe_op op_fdiv (pv 3) pe_int)) pe_int) pa_nil)) pe_int))
      (pss_one (ps_ret (pe_op op_mod (pe_op op_fdiv (pe_callTy (T := "int") call_int1 (by rfl) T.z_int (by decide +kernel) (pa_cons (pv 3) pa_nil)) pe_int) (pv 1)))))))))), ?_⟩
    walk_at "rds"
    refine ⟨⟨by decide, by decide, by decide⟩, ?_⟩
    walk_at "rds"
    have kp : ∀ o, Kp [a] H (upd H a o) := fun o => Kp.own hs rfl (by simp)
    refine ite2 (fun _ => ?_) (fun _ => ?_)
    · refine ⟨_, rfl, _, rfl, _, _, rfl, rfl, ⟨h0, h1⟩, _, rfl, a, _, _, 0, rfl, rfl, hs, rfl, ?_⟩
      refine ⟨_, rfl, .inl ⟨_, rfl, _, rfl, _, _, rfl, rfl, h0, ?_⟩⟩
      exact q _ _ (Int.emod_nonneg _ (by omega)) (Int.emod_lt_of_pos _ h0) (kp _) ⟨_, _, upd_same⟩
    · have e1 : SqL K H a [.int n, .int c] := SqL.of hs
      refine ⟨_, rfl, _, _, _, _, rfl, rfl, e1, rfl, _, _, rfl, rfl, _, rfl, a, _, _, 1, rfl, rfl, hs, rfl, ?_⟩
      have e2 : SqL K (upd H a (.lst [.int n, .int (c + 1)])) a [.int n, .int (c + 1)] := SqL.of upd_same
      refine ⟨_, rfl, _, _, rfl, rfl, .inr ⟨by decide, by decide⟩, _, rfl, _, _, _, _, rfl, rfl, e2, rfl, _, _, rfl, rfl, .inr ⟨by decide, by decide⟩, _, _, rfl, rfl, _, _, rfl, rfl, .inl ⟨_, rfl, _, _, rfl, rfl, (by show (0 : Int) < _; decide), ?_⟩⟩
      refine ⟨_, rfl, _, rfl, _, _, rfl, rfl, .inl ⟨by omega, by omega⟩, _, rfl, _, _, rfl, rfl, _, rfl, _, _, _, _, rfl, rfl, e2, rfl, _, _, rfl, rfl, .inr ⟨by decide, by decide⟩, _, _, rfl, rfl, .inl ⟨_, rfl, _, _, rfl, rfl, (by show (0 : Int) < _; decide), ?_⟩⟩
      refine ⟨_, rfl, _, rfl, _, _, rfl, rfl, .inl ⟨by omega, by omega⟩, _, rfl, _, _, rfl, rfl, ⟨by decide, by decide⟩, _, _, rfl, rfl, _, _, rfl, rfl, .inl ⟨_, rfl, _, _, rfl, rfl, (by show (0 : Int) < _; decide), ?_⟩⟩
      refine ⟨_, rfl, .inl ⟨_, rfl, _, _, rfl, rfl, ⟨by decide, by decide⟩, _, rfl, _, _, rfl, rfl, h0, ?_⟩⟩
      exact q _ _ (Int.emod_nonneg _ (by omega)) (Int.emod_lt_of_pos _ h0) (kp _) ⟨_, _, upd_same⟩
def sp_merge_names (K : PySem.W.Frag) : Sp := fun vs H Q _ => ∃ (p : Addr) (ls : List V) (nss : List (List Str)), vs = [.ref p] ∧ SqT K H p ls ∧ All2 (fun v ns => ∃ a, v = .ref a ∧ Sq K H a (ns.map V.str)) ls nss ∧ nss.flatten.length < 64 ∧
  ∀ (ys : List Str) r H', Asc ys → (∀ x, x ∈ ys ↔ x ∈ nss.flatten) → Kp [] H H' → H' r = some (.tup (ys.map V.str)) → Q (.ref r) H'
theorem ok_merge_names (T : Txt K mg A D) : FnR P w K mg base CX0 1 (A 1) (star 0 (sp_merge_names K)) := by
  obtain ⟨oc0, od0, kV0, doc0, pm0, an0, cdv, ct0, osl0, e0, lk, hcd⟩ := T.F_merge_names.ex
  rw [e0] at lk
  refine StX.fn_star (ps := []) (pv := "lists") (sp := sp_merge_names K) lk hcd sc_merge_names StX.cxUp_none (fun us rest hl => ?_) (fun A' outer s H vs Q E hr h => ?_)
  · match us, hl with | [], _ => cases rest <;> rfl
  · obtain ⟨p, ls, nss, rfl, hp, hall, hlen, q⟩ := h
    have hu := hu_of hr
    refine nox_ex ?_
    refine ⟨_, (pss_cons (ps_set (i := 1) sc_merge_names.nd rfl (Or.inl rfl) pe_dnewK)
      (pss_cons (ps_for PassesOwn.never rfl (iK_tup (K := K) rfl (pv 0)) (pg_name (i := 2) sc_merge_names.nd rfl (Or.inl rfl))
        (pss_one (ps_for PassesOwn.never rfl (pi_or (iK_list (K := K) rfl (pv 2)) (iK_tup (K := K) rfl (pv 2))) (pg_name (i := 3) sc_merge_names.nd rfl (Or.inl rfl))
          (pss_one (ps_dput hu (pv 1) (pv 3) pe_bl rfl)))))
      (pss_one (ps_ret (pe_callTy (T := "tuple") (cK_tuple (K := K) rfl) (by rfl) T.z_tuple (by decide +kernel) (pa_cons (pe_callB (id := "sorted") (cK_sortedS (K := K) rfl) (by rfl) T.z_sorted (by decide +kernel) (pa_cons (pe_callTy (T := "list") (call_listD rfl) (by rfl) T.z_list (by decide +kernel) (pa_cons (pv 1) pa_nil)) pa_nil)) pa_nil)))))), ?_⟩
    intro d hd
    have kd : ∀ o, Kp [] H (upd H d o) := fun o => Kp.new hd
    refine ⟨_, rfl, _, rfl, ⟨_, (kd _).sqT hp⟩, for_it walk_tup (fun i σ H' => ∃ kvs v2 v3, σ = [some (.ref p), some (.ref d), v2, v3] ∧ Kp [] H H' ∧ H' d = some (.dK kvs) ∧ Mgd kvs (nss.take i).flatten)
      ⟨[], none, none, rfl, kd _, upd_same, ⟨List.nodup_nil, fun x => by simp [keysOf]⟩⟩ (fun i σ H' _ z => by obtain ⟨_, _, _, _, k, _⟩ := z; exact k.sqT hp) ?_ ?_⟩
    · rintro i v σ H1 H2 hi ⟨kvs, v2, v3, rfl, k1, e1, m1⟩ ⟨rfl, hv⟩
      obtain ⟨ns, hns, a, rfl, hq⟩ := hall.at hv
      have stp : (nss.take (i + 1)).flatten = (nss.take i).flatten ++ ns := by rw [List.take_add_one, hns]; simp
      have part : ∀ j, ((nss.take i).flatten ++ ns.take j).length < 64 := fun j => by
        have h1 : ((nss.take i).flatten ++ ns.take j).length ≤ ((nss.take (i + 1)).flatten).length := by
          rw [stp, List.length_append, List.length_append, List.length_take]; omega
        have h2 : nss.flatten.length = ((nss.take (i + 1)).flatten).length + ((nss.drop (i + 1)).flatten).length := by
          rw [← List.length_append, ← List.flatten_append, List.take_append_drop]
        omega
      rcases hq with hq | hq
      all_goals
        first
        | (have hs : ∀ H', Kp [] H H' → SqL K H' a (ns.map V.str) := fun _ k => k.sqL List.not_mem_nil hq
           refine .inl ⟨_, rfl, _, rfl, ⟨_, hs _ k1⟩, for_it walk_list (fun j σ H' => ∃ kvs v3, σ = [some (.ref p), some (.ref d), some (.ref a), v3] ∧ Kp [] H H' ∧ H' d = some (.dK kvs) ∧ Mgd kvs ((nss.take i).flatten ++ ns.take j))
            ⟨kvs, v3, rfl, k1, e1, by simpa using m1⟩ (fun j σ H' _ z => by obtain ⟨_, _, _, k, _⟩ := z; exact hs _ k) ?_ ?_⟩)
        | (have hs : ∀ H', Kp [] H H' → SqT K H' a (ns.map V.str) := fun _ k => k.sqT hq
           refine .inr ⟨_, rfl, _, rfl, ⟨_, hs _ k1⟩, for_it walk_tup (fun j σ H' => ∃ kvs v3, σ = [some (.ref p), some (.ref d), some (.ref a), v3] ∧ Kp [] H H' ∧ H' d = some (.dK kvs) ∧ Mgd kvs ((nss.take i).flatten ++ ns.take j))
            ⟨kvs, v3, rfl, k1, e1, by simpa using m1⟩ (fun j σ H' _ z => by obtain ⟨_, _, _, k, _⟩ := z; exact hs _ k) ?_ ?_⟩)
        · rintro j x σ H3 H4 hj ⟨kvs, v3, rfl, k3, e3, m3⟩ ⟨rfl, hx⟩
          rw [List.getElem?_map] at hx
          obtain ⟨s, hs', rfl⟩ := Option.map_eq_some_iff.mp hx
          have st2 : (nss.take i).flatten ++ ns.take (j + 1) = ((nss.take i).flatten ++ ns.take j) ++ [s] := by rw [List.take_add_one, hs']; simp
          refine ⟨_, rfl, _, rfl, _, _, rfl, DPut.k (k := Sum.inr s) e3 (szl (by have := mem_keys_len m3; have := part j; omega)), ?_⟩
          exact ⟨_, _, rfl, k3.put hd, upd_same, by rw [st2]; exact m3.put⟩
        · rintro σ H3 ⟨kvs, v3, rfl, k3, e3, m3⟩
          refine ⟨_, _, _, rfl, k3, e3, ?_⟩
          rw [List.length_map, List.take_length] at m3
          rw [stp]; exact m3
    · rintro σ H1 ⟨kvs, v2, v3, rfl, k1, e1, m1⟩
      rw [hall.length, List.take_length] at m1
      obtain ⟨ks, ek, nd, mk⟩ := m1.keys
      have el : (kvs.map fun kv => kV kv.1) = ks.map V.str := by
        have := congrArg (List.map kV) ek
        rw [keysOf, List.map_map, List.map_map] at this
        exact this
      refine ⟨_, rfl, d, kvs, rfl, .inl e1, fun l hl => ?_⟩
      rw [el]
      refine ⟨l, ks, rfl, SqL.of upd_same, Nat.lt_of_le_of_lt (nodup_short nd fun x hx => (mk x).mp hx) hlen, fun ys t perm srt ht => ?_⟩
      refine ⟨t, _, rfl, .inl ⟨SqL.of upd_same, fun r hr => ?_⟩⟩
      exact q ys r _ (asc_of_sorted srt (perm.nodup_iff.mpr nd)) (fun x => (perm.mem_iff).trans (mk x)) (((k1.trans (Kp.new hl)).trans (Kp.new ht)).trans (Kp.new hr)) upd_same
def sp_join (K : PySem.W.Frag) : Sp := fun vs H Q _ => ∃ (a : Addr) (ths : List V) (ds : List (List Str × List PyData)), vs = [.ref a] ∧ Sq K H a ths ∧ All2 (fun v d => Th K H v d.1 d.2) ths ds ∧ (ds.map (·.1)).flatten.length < 30 ∧ (ds.map (·.2)).flatten.length < 1000 ∧
  ∀ (ys : List Str) v H', Asc ys → (∀ x, x ∈ ys ↔ x ∈ (ds.map (·.1)).flatten) → Kp [] H H' → Th K H' v ys (ds.map (·.2)).flatten → Q v H'
theorem ok_join (T : Txt K mg A D) : FnOk P w K mg base CX0 2 (A 3) (D 3) ["theories"] (sp_join K) := by
  refine T.F_join.ok sc_join (fun vs H Q E h => ?_) (fun cdv A' outer s H vs Q E hr h => ?_)
  · obtain ⟨a, ths, ds, rfl, hq, hall, hb1, hb2, q⟩ := h
    rfl
  · obtain ⟨a, ths, ds, rfl, hq, hall, hb1, hb2, q⟩ := h
    have hu := hu_of hr
    have G_merge_names : FnR P w K mg base CX0 1 (A 1) (star 0 (sp_merge_names K)) := ok_merge_names T
    refine ⟨_, (pss_cons (ps_set (i := 1) sc_join.nd rfl (Or.inl rfl) (pe_tup pa_nil))
      (pss_cons (ps_set (i := 2) sc_join.nd rfl (Or.inl rfl) (pe_lst pa_nil))
      (pss_cons (ps_for PassesOwn.never rfl (pi_or (iK_list (K := K) rfl (pv 0)) (iK_tup (K := K) rfl (pv 0))) (pg_name (i := 3) sc_join.nd rfl (Or.inl rfl))
        (pss_cons (ps_set (i := 1) sc_join.nd rfl (Or.inl rfl) (pe_callF G_merge_names (hr.mono (by decide)) T.F_merge_names.kp rfl T.g_merge_names pass0 (pa_cons (pv 1) (pa_cons (pe_ix (xK_tup (K := K) rfl) (pv 3) pe_int (fun _ _ => rfl)) pa_nil))))
        (pss_one (ps_expr (pe_bm PySem.F.plainAttrs_list PySem.F.slot_list_extend PySem.F.type_list_extend (mt_extendT (K := K) rfl) (pv 2) (pa_cons (pe_ix (xK_tup (K := K) rfl) (pv 3) pe_int (fun _ _ => rfl)) pa_nil))))))
      (pss_one (ps_ret (pe_tup (pa_cons (pv 1) (pa_cons (pe_callTy (T := "tuple") (cK_tuple (K := K) rfl) (by rfl) T.z_tuple (by decide +kernel) (pa_cons (pv 2) pa_nil)) pa_nil)))))))), ?_⟩
    walk_at "st"
    refine ⟨sz (by simp), fun n0 hn0 => ?_⟩
    walk_at "st"
    refine ⟨sz (by simp), fun p hp => ?_⟩
    have k0 : Kp [] H (upd (upd H n0 (.tup [])) p (.lst [])) := (Kp.new hn0).trans (Kp.new hp)
    have Hp0 : H p = none := by
      cases e : H p with
      | none => rfl
      | some o =>
        have := (Kp.new (A := []) (o := .tup []) hn0) p o e (.inl List.not_mem_nil)
        rw [hp] at this; cases this
    have flt : ∀ i, ((ds.take i).map (·.1)).flatten.length ≤ (ds.map (·.1)).flatten.length := fun i => by
      have : (ds.map (·.1)).flatten = ((ds.take i).map (·.1)).flatten ++ ((ds.drop i).map (·.1)).flatten := by rw [← List.flatten_append, ← List.map_append, List.take_append_drop]
      rw [this, List.length_append]; omega
    have flt2 : ∀ i, ((ds.take i).map (·.2)).flatten.length ≤ (ds.map (·.2)).flatten.length := fun i => by
      have : (ds.map (·.2)).flatten = ((ds.take i).map (·.2)).flatten ++ ((ds.drop i).map (·.2)).flatten := by rw [← List.flatten_append, ← List.map_append, List.take_append_drop]
      rw [this, List.length_append]; omega
    have gAll : ∀ {i : Nat}, Gc ((ds.take i).map (·.2)).flatten := fun {i} => Gc.flatten fun xs hx => by
      obtain ⟨d, hd, rfl⟩ := List.mem_map.mp hx
      have hd' := List.mem_of_mem_take hd
      obtain ⟨j, hj⟩ := List.getElem?_of_mem hd'
      have jl : j < ths.length := by rw [hall.length]; exact (List.getElem?_eq_some_iff.mp hj).1
      obtain ⟨y, hy, hth⟩ := hall.at (List.getElem?_eq_getElem jl)
      rw [hj] at hy; cases hy
      exact hth.g
    have key : ∀ i v (H2 : Hp) (t' : Addr) (ys : List Str) (cvs : List V), ths[i]? = some v → Kp [] H H2 → H2 p = some (.lst cvs) → H2 t' = some (.tup (ys.map V.str)) → Asc ys → (∀ x, x ∈ ys ↔ x ∈ ((ds.take i).map (·.1)).flatten) → DvAll [] K H2 cvs ((ds.take i).map (·.2)).flatten →
        ∃ tv x y cs', v = .ref tv ∧ SqT K H2 tv [.ref x, .ref y] ∧ SqT K H2 y cs' ∧ cvs.length + cs'.length ≤ sizeLine ∧ ∀ r, H2 r = none → ∃ nss : List (List Str), SqT K (upd H2 r (.tup [.ref t', .ref x])) r [.ref t', .ref x] ∧ All2 (fun v ns => ∃ a, v = V.ref a ∧ Sq K (upd H2 r (.tup [.ref t', .ref x])) a (ns.map V.str)) [.ref t', .ref x] nss ∧ nss.flatten.length < 64 ∧ (∀ z, z ∈ nss.flatten ↔ z ∈ ((ds.take (i + 1)).map (·.1)).flatten) ∧
          (∀ H3, Kp [] (upd H2 r (.tup [.ref t', .ref x])) H3 → SqT K H3 tv [.ref x, .ref y] ∧ SqT K H3 y cs' ∧ H3 p = some (.lst cvs) ∧ Kp [] H (upd H3 p (.lst (cvs ++ cs'))) ∧ DvAll [] K (upd H3 p (.lst (cvs ++ cs'))) (cvs ++ cs') ((ds.take (i + 1)).map (·.2)).flatten) := by
      intro i v H2 t' ys cvs hv k2 h2 ht asc mem hd
      obtain ⟨d, hds, hth⟩ := hall.at hv
      obtain ⟨tv, x, y, cs', rfl, e1, e2, e3, e4⟩ := (hth.kp k2).inv
      have s1 : ((ds.take (i + 1)).map (·.1)).flatten = ((ds.take i).map (·.1)).flatten ++ d.1 := by rw [List.take_add_one, hds]; simp
      have s2 : ((ds.take (i + 1)).map (·.2)).flatten = ((ds.take i).map (·.2)).flatten ++ d.2 := by rw [List.take_add_one, hds]; simp
      have l1 := flt (i + 1)
      have l2 := flt2 (i + 1)
      rw [s1, List.length_append] at l1
      rw [s2, List.length_append] at l2
      have l3 := asc_len asc (fun x hx => (mem x).mp hx)
      have l4 := hd.length
      have l5 := e4.length
      refine ⟨tv, x, y, cs', rfl, e1, e3, sz (by omega), fun r hr => ⟨[ys, d.1], SqT.of upd_same, ⟨⟨t', rfl, .inr (SqT.of ((Kp.new (A := []) hr).get ht (.inr rfl)))⟩, ⟨x, rfl, .inr ((Kp.new (A := []) hr).sqT e2)⟩, trivial⟩, ?_, fun z => ?_, fun H3 k3 => ?_⟩⟩
      · simp only [List.flatten_cons, List.flatten_nil, List.append_nil, List.length_append]; omega
      · rw [s1]; simp [mem]
      · have k3' := (Kp.new (A := []) hr).trans k3
        have h3 := k3'.get h2 (.inl List.not_mem_nil)
        have kp3 : Kp [p] H3 (upd H3 p (.lst (cvs ++ cs'))) := Kp.own h3 rfl (by simp)
        refine ⟨k3'.sqT e1, k3'.sqT e3, h3, (k2.trans k3').put Hp0, ?_⟩
        rw [s2]
        exact (hd.mv gAll.f (k3'.nil.trans kp3)).app (e4.mv hth.g.f (k3'.nil.trans kp3))
    refine seq_forK ?_
    have inv0 : ∃ (t' : Addr) (ys : List Str) (cvs : List V) (v3 : Option V), [some (V.ref a), some (.ref n0), some (.ref p), none] = [some (.ref a), some (.ref t'), some (.ref p), v3] ∧ Kp [] H (upd (upd H n0 (.tup [])) p (.lst [])) ∧ upd (upd H n0 (.tup [])) p (.lst []) p = some (.lst cvs) ∧ upd (upd H n0 (.tup [])) p (.lst []) t' = some (.tup (ys.map V.str)) ∧ Asc ys ∧ (∀ x, x ∈ ys ↔ x ∈ ((ds.take 0).map (·.1)).flatten) ∧ DvAll [] K (upd (upd H n0 (.tup [])) p (.lst [])) cvs ((ds.take 0).map (·.2)).flatten :=
      ⟨n0, [], [], _, rfl, k0, upd_same, (Kp.new (A := []) hp).get upd_same (.inr rfl), List.Pairwise.nil, by simp, .nil⟩
    rcases hq with hq | hq
    · refine .inl ⟨_, rfl, _, rfl, ⟨_, k0.sqL List.not_mem_nil hq⟩, for_seq walk_list (fun i σ H' => ∃ (t' : Addr) (ys : List Str) (cvs : List V) (v3 : Option V), σ = [some (.ref a), some (.ref t'), some (.ref p), v3] ∧ Kp [] H H' ∧ H' p = some (.lst cvs) ∧ H' t' = some (.tup (ys.map V.str)) ∧ Asc ys ∧ (∀ x, x ∈ ys ↔ x ∈ ((ds.take i).map (·.1)).flatten) ∧ DvAll [] K H' cvs ((ds.take i).map (·.2)).flatten)
        inv0 (fun i σ H' _ z => by obtain ⟨_, _, _, _, _, k, _⟩ := z; exact k.sqL List.not_mem_nil hq) ?_ ?_⟩
      · rintro i v σ H1 H2 hi ⟨t', ys, cvs, v3, rfl, k1, h1, ht, asc, mem, hd⟩ ⟨rfl, hv⟩
        obtain ⟨tv, x, y, cs', rfl, e1, e3, el, key2⟩ := key i v H2 t' ys cvs hv k1 h1 ht asc mem hd
        walk_at "st"
        refine ⟨_, rfl, _, rfl, tv, _, 0, _, rfl, rfl, e1, rfl, [], _, rfl, rfl, sz (by simp), fun r hr => ?_⟩
        obtain ⟨nss, m1, m2, m3, m4, m5⟩ := key2 r hr
        refine ⟨r, _, nss, rfl, m1, m2, m3, fun ys' r' H3 asc' mem' k3 hr' => ?_⟩
        obtain ⟨f1, f2, f3, f4, f5⟩ := m5 H3 k3
        have kp3 : Kp [p] H3 (upd H3 p (.lst (cvs ++ cs'))) := Kp.own f3 rfl (by simp)
        walk_at "st"
        refine ⟨_, rfl, .inl ⟨rfl, _, SqL.of f3⟩, _, rfl, tv, _, 1, _, rfl, rfl, f1, rfl, p, y, cvs, cs', rfl, rfl, f3, f2, el, ?_⟩
        exact ⟨r', ys', _, _, rfl, f4, upd_same, kp3.get hr' (.inr rfl), asc', fun x => (mem' x).trans (m4 x), f5⟩
      · rintro σ H1 ⟨t', ys, cvs, v3, rfl, k1, h1, ht, asc, mem, hd⟩
        rw [hall.length, List.take_length] at mem hd
        have gA : Gc (ds.map (·.2)).flatten := by have := gAll (i := ds.length); rwa [List.take_length] at this
        walk_at "st"
        refine ⟨_, rfl, _, rfl, p, _, rfl, .inl ⟨SqL.of h1, fun r hr => ⟨sz (by simp), fun z hz => ?_⟩⟩⟩
        have k2 := (Kp.new (A := []) (o := .tup cvs) hr).trans (Kp.new (o := .tup [.ref t', .ref r]) hz)
        exact q ys _ _ asc mem (k1.trans k2) (Th.mk' gA (SqT.of upd_same) (k2.sqT (SqT.of ht)) ((Kp.new (A := []) hz).sqT (SqT.of upd_same)) (hd.mv gA.f k2))
    · refine .inr ⟨_, rfl, _, rfl, ⟨_, k0.sqT hq⟩, for_seq walk_tup (fun i σ H' => ∃ (t' : Addr) (ys : List Str) (cvs : List V) (v3 : Option V), σ = [some (.ref a), some (.ref t'), some (.ref p), v3] ∧ Kp [] H H' ∧ H' p = some (.lst cvs) ∧ H' t' = some (.tup (ys.map V.str)) ∧ Asc ys ∧ (∀ x, x ∈ ys ↔ x ∈ ((ds.take i).map (·.1)).flatten) ∧ DvAll [] K H' cvs ((ds.take i).map (·.2)).flatten)
        inv0 (fun i σ H' _ z => by obtain ⟨_, _, _, _, _, k, _⟩ := z; exact k.sqT hq) ?_ ?_⟩
      · rintro i v σ H1 H2 hi ⟨t', ys, cvs, v3, rfl, k1, h1, ht, asc, mem, hd⟩ ⟨rfl, hv⟩
        obtain ⟨tv, x, y, cs', rfl, e1, e3, el, key2⟩ := key i v H2 t' ys cvs hv k1 h1 ht asc mem hd
        walk_at "st"
        refine ⟨_, rfl, _, rfl, tv, _, 0, _, rfl, rfl, e1, rfl, [], _, rfl, rfl, sz (by simp), fun r hr => ?_⟩
        obtain ⟨nss, m1, m2, m3, m4, m5⟩ := key2 r hr
        refine ⟨r, _, nss, rfl, m1, m2, m3, fun ys' r' H3 asc' mem' k3 hr' => ?_⟩
        obtain ⟨f1, f2, f3, f4, f5⟩ := m5 H3 k3
        have kp3 : Kp [p] H3 (upd H3 p (.lst (cvs ++ cs'))) := Kp.own f3 rfl (by simp)
        walk_at "st"
        refine ⟨_, rfl, .inl ⟨rfl, _, SqL.of f3⟩, _, rfl, tv, _, 1, _, rfl, rfl, f1, rfl, p, y, cvs, cs', rfl, rfl, f3, f2, el, ?_⟩
        exact ⟨r', ys', _, _, rfl, f4, upd_same, kp3.get hr' (.inr rfl), asc', fun x => (mem' x).trans (m4 x), f5⟩
      · rintro σ H1 ⟨t', ys, cvs, v3, rfl, k1, h1, ht, asc, mem, hd⟩
        rw [hall.length, List.take_length] at mem hd
        have gA : Gc (ds.map (·.2)).flatten := by have := gAll (i := ds.length); rwa [List.take_length] at this
        walk_at "st"
        refine ⟨_, rfl, _, rfl, p, _, rfl, .inl ⟨SqL.of h1, fun r hr => ⟨sz (by simp), fun z hz => ?_⟩⟩⟩
        have k2 := (Kp.new (A := []) (o := .tup cvs) hr).trans (Kp.new (o := .tup [.ref t', .ref r]) hz)
        exact q ys _ _ asc mem (k1.trans k2) (Th.mk' gA (SqT.of upd_same) (k2.sqT (SqT.of ht)) ((Kp.new (A := []) hz).sqT (SqT.of upd_same)) (hd.mv gA.f k2))
def sp_widen (K : PySem.W.Frag) : Sp := fun vs H Q _ => ∃ (v : V) (p : Addr) (ns more : List Str) (cs : List PyData), vs = [v, .ref p] ∧ Th K H v ns cs ∧ SqT K H p (more.map V.str) ∧ ns.length + more.length < 64 ∧
  ∀ (ys : List Str) v' H', Asc ys → (∀ x, x ∈ ys ↔ x ∈ ns ++ more) → Kp [] H H' → Th K H' v' ys cs → Q v' H'
theorem ok_widen (T : Txt K mg A D) : FnR P w K mg base CX0 2 (A 4) (star 1 (sp_widen K)) := by
  obtain ⟨oc0, od0, kV0, doc0, pm0, an0, cdv, ct0, osl0, e0, lk, hcd⟩ := T.F_widen.ex
  rw [e0] at lk
  refine StX.fn_star (ps := ["theory"]) (pv := "names") (sp := sp_widen K) lk hcd sc_widen StX.cxUp_none (fun us rest hl => ?_) (fun A' outer s H vs Q E hr h => ?_)
  · match us, hl with | [_], _ => cases rest <;> rfl
  · obtain ⟨v, p, ns, more, cs, rfl, hth, hp, hlen, q⟩ := h
    have hu := hu_of hr
    have G_merge_names : FnR P w K mg base CX0 1 (A 1) (star 0 (sp_merge_names K)) := ok_merge_names T
    refine nox_ex ?_
    refine ⟨_, (pss_one (ps_ret (pe_tup (pa_cons (pe_callF G_merge_names (hr.mono (by decide)) T.F_merge_names.kp rfl T.g_merge_names pass0 (pa_cons (pe_ix (xK_tup (K := K) rfl) (pv 0) pe_int (fun _ _ => rfl)) (pa_cons (pv 1) pa_nil))) (pa_cons (pe_ix (xK_tup (K := K) rfl) (pv 0) pe_int (fun _ _ => rfl)) pa_nil))))), ?_⟩
    obtain ⟨t, x, y, cvs, rfl, e1, e2, e3, e4⟩ := hth.inv
    walk_at "st"
    refine ⟨_, rfl, t, _, 0, _, rfl, rfl, e1, rfl, _, rfl, [], _, rfl, rfl, sz (by simp), fun r hr => ?_⟩
    have kr : Kp [] H (upd H r (.tup [.ref x, .ref p])) := Kp.new hr
    refine ⟨r, _, [ns, more], rfl, SqT.of upd_same, ⟨⟨x, rfl, .inr (kr.sqT e2)⟩, ⟨p, rfl, .inr (kr.sqT hp)⟩, trivial⟩, by simp; omega, fun ys r' H3 asc mem k3 hr' => ?_⟩
    have k3' := kr.trans k3
    refine ⟨_, rfl, t, _, 1, _, rfl, rfl, k3'.sqT e1, rfl, sz (by simp), fun z hz => ?_⟩
    have kz : Kp [] H3 (upd H3 z (.tup [.ref r', .ref y])) := Kp.new hz
    exact q ys _ _ asc (fun w => by rw [mem w]; simp) (k3'.trans kz) (Th.mk' hth.g (SqT.of upd_same) (kz.sqT (SqT.of hr')) ((k3'.trans kz).sqT e3) (e4.mv hth.g.f (k3'.trans kz)))
theorem putK_len {kvs : List (Key × V)} {k : Key} {v : V} : (putK kvs k v).length ≤ kvs.length + 1 := by
  unfold putK
  split
  · rw [List.length_map]; omega
  · rw [List.length_append]; exact Nat.le_refl _
/-- the ground's name, if there is one -/
def gnd (kvs : List (Key × V)) : List Str := if (valV kvs (.inr "")).isSome then [""] else []
def sp_restrict (K : PySem.W.Frag) : Sp := fun vs H Q _ => ∃ (a n : Addr) (kvs : List (Key × V)) (names : List Str), vs = [.ref a, .ref n] ∧ H a = some (.dK kvs) ∧ Sq K H n (names.map V.str) ∧ (∀ s ∈ names, (valV kvs (.inr s)).isSome = true) ∧ names.length < 100 ∧
  ∀ r kvs' H', H r = none → H' r = some (.dK kvs') → Kp [] H H' → Mgd kvs' ((gnd kvs) ++ names) → (∀ k v, valV kvs' k = some v → valV kvs k = some v) → Q (.ref r) H'
theorem ok_restrict (T : Txt K mg A D) : FnOk P w K mg base CX0 1 (A 5) (D 5) ["assignment", "names"] (sp_restrict K) := by
  refine T.F_restrict.ok sc_restrict (fun vs H Q E h => ?_) (fun cdv A' outer s H vs Q E hr h => ?_)
  · obtain ⟨a, n, kvs, names, rfl, ha, hn, hk, hl, q⟩ := h
    rfl
  · obtain ⟨a, n, kvs, names, rfl, ha, hn, hk, hl, q⟩ := h
    have hu := hu_of hr
    refine ⟨_, (pss_cons (ps_set (i := 2) sc_restrict.nd rfl (Or.inl rfl) pe_dnewK)
      (C8.pss_cut (ps_if (pt_cmp (pc_din hu pe_str (pv 0)))
        (pss_one (ps_dput hu (pv 2) pe_str (pe_dget hu (pv 0) pe_str (fun _ _ => rfl)) rfl))
        pss_nil)
      (pss_cons (ps_for PassesOwn.never rfl (pi_or (iK_list (K := K) rfl (pv 1)) (iK_tup (K := K) rfl (pv 1))) (pg_name (i := 3) sc_restrict.nd rfl (Or.inl rfl))
        (pss_one (ps_dput hu (pv 2) (pv 3) (pe_dget hu (pv 0) (pv 3) (fun _ _ => rfl)) rfl)))
      (pss_one (ps_ret (pv 2)))))), ?_⟩
    walk_at "st"
    intro r hr
    have ar : a ≠ r := ne_of_none ha hr
    have kr : ∀ o, Kp [] H (upd H r o) := fun o => Kp.new hr
    refine cutK (fun σ H' => ∃ kvs' v3, σ = [some (.ref a), some (.ref n), some (.ref r), v3] ∧ Kp [] H H' ∧ H' r = some (.dK kvs') ∧ Mgd kvs' (gnd kvs) ∧ ∀ k v, valV kvs' k = some v → valV kvs k = some v) ?_ ?_
    · have ha' := (kr (.dK [])).get ha (.inl List.not_mem_nil)
      refine if_anK ?_
      refine ⟨_, rfl, a, _, rfl, DGet.k (k := Sum.inr "") ha', _, rfl, ?_⟩
      refine ite2 (fun c => ?_) (fun c => ?_)
      · obtain ⟨v, hv⟩ := Option.isSome_iff_exists.mp c
        refine ⟨_, rfl, a, v, rfl, (hv ▸ DGet.k (k := Sum.inr "") ha'), _, rfl, r, _, rfl, DPut.k (k := Sum.inr "") upd_same (szl (by simp)), ?_⟩
        refine ⟨_, _, rfl, (kr _).put hr, upd_same, ?_, fun k v' e => ?_⟩
        · rw [show gnd kvs = ([""] : List Str) from if_pos c]
          exact Mgd.put (xs := []) ⟨List.nodup_nil, fun x => by simp [keysOf]⟩
        · rw [valV_put] at e
          split at e
          · cases e; rename_i h; rw [h]; exact hv
          · cases e
      · refine ⟨_, _, rfl, kr _, upd_same, ?_, fun k v' e => by cases e⟩
        rw [show gnd kvs = ([] : List Str) from if_neg c]
        exact ⟨List.nodup_nil, fun x => by simp [keysOf]⟩
    rintro σ H1 ⟨kvs1, v3, rfl, k1, h1, m1, s1⟩
    have key : ∀ j s (kvs' : List (Key × V)) (H2 : Hp), names[j]? = some s → Kp [] H H2 → H2 r = some (.dK kvs') → Mgd kvs' ((gnd kvs) ++ names.take j) → (∀ k v, valV kvs' k = some v → valV kvs k = some v) →
        ∃ v, DGet H2 a (.str s) (some v) ∧ DPut H2 r (.str s) v (upd H2 r (.dK (putK kvs' (.inr s) v))) ∧ Kp [] H (upd H2 r (.dK (putK kvs' (.inr s) v))) ∧ Mgd (putK kvs' (.inr s) v) ((gnd kvs) ++ names.take (j + 1)) ∧ (∀ k w, valV (putK kvs' (.inr s) v) k = some w → valV kvs k = some w) := by
      intro j s kvs' H2 hs k2 h2 m2 s2
      have ha2 := k2.get ha (.inl List.not_mem_nil)
      obtain ⟨v, hv⟩ := Option.isSome_iff_exists.mp (hk s (List.mem_of_getElem? hs))
      refine ⟨v, hv ▸ DGet.k (k := Sum.inr s) ha2, DPut.k (k := Sum.inr s) h2 (szl ?_), k2.put hr, ?_, fun k w e => ?_⟩
      · have := mem_keys_len m2
        have t := List.length_take_le' j names
        have i1 : (gnd kvs).length ≤ 1 := by unfold gnd; split <;> simp
        rw [List.length_append] at this
        omega
      · rw [List.take_add_one, hs, Option.toList_some, ← List.append_assoc]
        exact m2.put
      · rw [valV_put] at e
        split at e
        · cases e; rename_i h; rw [h]; exact hv
        · exact s2 k w e
    refine seq_forK ?_
    rcases hn with hn | hn
    · refine .inl ⟨_, rfl, _, rfl, ⟨_, k1.sqL List.not_mem_nil hn⟩, for_seq walk_list (fun j σ H' => ∃ kvs' v3, σ = [some (.ref a), some (.ref n), some (.ref r), v3] ∧ Kp [] H H' ∧ H' r = some (.dK kvs') ∧ Mgd kvs' ((gnd kvs) ++ names.take j) ∧ ∀ k v, valV kvs' k = some v → valV kvs k = some v)
        ⟨_, _, rfl, k1, h1, by simpa using m1, s1⟩ (fun j σ H' _ z => by obtain ⟨_, _, _, k, _⟩ := z; exact k.sqL List.not_mem_nil hn) ?_ ?_⟩
      · rintro j v σ H2 H3 hj ⟨kvs', u3, rfl, k2, h2, m2, s2⟩ ⟨rfl, hv⟩
        rw [List.getElem?_map] at hv
        obtain ⟨s, hs, rfl⟩ := Option.map_eq_some_iff.mp hv
        obtain ⟨v, g1, g2, g3, g4, g5⟩ := key j s kvs' _ hs k2 h2 m2 s2
        refine ⟨_, rfl, _, rfl, a, v, rfl, g1, _, rfl, _, rfl, r, _, rfl, g2, ?_⟩
        exact ⟨_, _, rfl, g3, upd_same, g4, g5⟩
      · rintro σ H2 ⟨kvs', u3, rfl, k2, h2, m2, s2⟩
        rw [List.length_map, List.take_length] at m2
        walk_at "st"
        exact ⟨_, rfl, q r kvs' _ hr h2 k2 m2 s2⟩
    · refine .inr ⟨_, rfl, _, rfl, ⟨_, k1.sqT hn⟩, for_seq walk_tup (fun j σ H' => ∃ kvs' v3, σ = [some (.ref a), some (.ref n), some (.ref r), v3] ∧ Kp [] H H' ∧ H' r = some (.dK kvs') ∧ Mgd kvs' ((gnd kvs) ++ names.take j) ∧ ∀ k v, valV kvs' k = some v → valV kvs k = some v)
        ⟨_, _, rfl, k1, h1, by simpa using m1, s1⟩ (fun j σ H' _ z => by obtain ⟨_, _, _, k, _⟩ := z; exact k.sqT hn) ?_ ?_⟩
      · rintro j v σ H2 H3 hj ⟨kvs', u3, rfl, k2, h2, m2, s2⟩ ⟨rfl, hv⟩
        rw [List.getElem?_map] at hv
        obtain ⟨s, hs, rfl⟩ := Option.map_eq_some_iff.mp hv
        obtain ⟨v, g1, g2, g3, g4, g5⟩ := key j s kvs' _ hs k2 h2 m2 s2
        refine ⟨_, rfl, _, rfl, a, v, rfl, g1, _, rfl, _, rfl, r, _, rfl, g2, ?_⟩
        exact ⟨_, _, rfl, g3, upd_same, g4, g5⟩
      · rintro σ H2 ⟨kvs', u3, rfl, k2, h2, m2, s2⟩
        rw [List.length_map, List.take_length] at m2
        walk_at "st"
        exact ⟨_, rfl, q r kvs' _ hr h2 k2 m2 s2⟩
def sp__law_pool (K : PySem.W.Frag) : Sp := fun vs H Q _ => vs = [] ∧ ∀ p, H p = none → Q (.ref p) (upd H p (.lst (pool.map V.str)))
theorem ok__law_pool (T : Txt K mg A D) : FnOk P w K mg base CX0 1 (A 9) (D 9) [] (sp__law_pool K) := by
  refine T.F__law_pool.ok sc__law_pool (fun vs H Q E h => ?_) (fun cdv A' outer s H vs Q E hr h => ?_)
  · obtain ⟨rfl, q⟩ := h
    rfl
  · obtain ⟨rfl, q⟩ := h
    have hu := hu_of hr
    refine ⟨_, (pss_one (ps_ret (pe_lst (pa_cons pe_str (pa_cons pe_str (pa_cons pe_str (pa_cons pe_str (pa_cons pe_str (pa_cons pe_str (pa_cons pe_str (pa_cons pe_str pa_nil))))))))))), ?_⟩
    walk_at "st"
    exact ⟨sz (by simp), fun p hp => q p hp⟩
def sp__law_some (K : PySem.W.Frag) : Sp := fun vs H Q _ => ∃ (a n : Addr) (ns : List Str) (sh : Int), vs = [.ref a, .ref n, .int sh] ∧ Src H a ∧ n ≠ a ∧ H n = some (.lst (ns.map V.str)) ∧ ns.length < 100 ∧ 0 < sh ∧ sh < 1073741824 ∧
  ∀ (sub : List Str) p H', sub.Sublist ns → H p = none → Kp [a] H H' → Src H' a → H' p = some (.lst (sub.map V.str)) → Q (.ref p) H'
theorem ok__law_some (T : Txt K mg A D) : FnOk P w K mg base CX0 2 (A 10) (D 10) ["_law_source_here", "_law_names", "_law_share"] (sp__law_some K) := by
  refine T.F__law_some.ok sc__law_some (fun vs H Q E h => ?_) (fun cdv A' outer s H vs Q E hr h => ?_)
  · obtain ⟨a, n, ns, sh, rfl, hs, na, hn, hl, h0, h1, q⟩ := h
    rfl
  · obtain ⟨a, n, ns, sh, rfl, hs, na, hn, hl, h0, h1, q⟩ := h
    have hu := hu_of hr
    have G__law_draw : FnOk P w K mg base CX0 1 (A 8) (D 8) ["_law_source_here", "_law_limit"] (sp__law_draw K) := ok__law_draw T
    refine ⟨_, (pss_one (ps_ret (pe_lc (own := [("_law_name", 3)]) (g := gName 3)  rfl sc__law_some.nd (iK_list (K := K) rfl (pv 1)) (blkOk_by (N := N__law_some) (sc := defScope (topS 10)) (by decide +kernel)) (fun _ _ _ _ _ => (pg_name (i := 3) sc__law_some.nd rfl (Or.inl rfl))) (fun _ _ _ _ _ => (pts_one (pt_cmpR op_eq (pe_call G__law_draw (hr.mono (by decide)) rfl T.g__law_draw T.F__law_draw.kp T.b__law_draw .nil pass0 (pa_cons (pv 0) (pa_cons (pv 2) pa_nil))) pe_int (nomark _)))) (fun _ _ _ _ _ => (pv 3))))), ?_⟩
    walk_at "st"
    refine ⟨_, rfl, _, rfl, ⟨_, SqL.of hn⟩, fun p hp => lc_it walk_list (fun i H' => ∃ sub : List Str, H' p = some (.lst (sub.map V.str)) ∧ sub.Sublist (ns.take i) ∧ Kp [a] H H' ∧ Src H' a) ⟨[], upd_same, List.nil_sublist _, Kp.new hp, hs.kp (Kp.new (A := []) hp) List.not_mem_nil⟩ (fun i H' _ z => by obtain ⟨_, _, _, k, _⟩ := z; exact k.sqL (by simpa using na) (SqL.of hn)) ?_ ?_⟩
    · rintro i x H1 H2 hi ⟨sub, e1, u1, k1, s1⟩ ⟨rfl, hx⟩
      have pa : p ≠ a := fun e => by subst e; obtain ⟨_, _, e⟩ := hs; rw [hp] at e; cases e
      rw [List.getElem?_map] at hx
      obtain ⟨s, hs', rfl⟩ := Option.map_eq_some_iff.mp hx
      have st : ns.take (i + 1) = ns.take i ++ [s] := by rw [List.take_add_one, hs']; rfl
      refine gnK ⟨rfl, ?_⟩
      refine ⟨_, rfl, _, rfl, a, sh, rfl, s1, h0, h1, fun r H3 r0 r1 k3 s3 => ?_⟩
      have e3 := k3.get e1 (.inl (by simpa using pa))
      refine ⟨rfl, _, rfl, ?_⟩
      refine ite2 (fun _ => ?_) (fun _ => ?_)
      · refine ⟨_, rfl, _, e3, szl ?_, sub ++ [s], by rw [upd_same, List.map_append]; rfl, by rw [st]; exact u1.append (List.Sublist.refl _), (k1.trans k3).put hp, s3.kp (Kp.own (A := [p]) e3 rfl (by simp)) (by simpa using Ne.symm pa)⟩
        have := u1.length_le
        rw [List.length_take] at this
        rw [List.length_map]; omega
      · exact ⟨sub, e3, by rw [st]; exact u1.trans (List.sublist_append_left _ _), k1.trans k3, s3⟩
    · rintro H1 ⟨sub, e1, u1, k1, s1⟩
      rw [List.length_map, List.take_length] at u1
      exact q sub p _ u1 hp k1 s1 e1
def sp__law_theory (K : PySem.W.Frag) : Sp := fun vs H Q _ => ∃ (a : Addr), vs = [.ref a] ∧ Src H a ∧
  ∀ (ns : List Str) (cs : List PyData) v H', Asc ns → (∀ x ∈ ns, x ∈ pool) → ns.length ≤ 5 → cs.length ≤ 3 → Kp [a] H H' → Src H' a → Th K H' v ns cs → Q v H'
theorem ok__law_theory (T : Txt K mg A D) : FnOk P w K mg base CX0 3 (A 11) (D 11) ["_law_source_here"] (sp__law_theory K) := by
  refine T.F__law_theory.ok sc__law_theory (fun vs H Q E h => ?_) (fun cdv A' outer s H vs Q E hr h => ?_)
  · obtain ⟨a, rfl, hs, q⟩ := h
    rfl
  · obtain ⟨a, rfl, hs, q⟩ := h
    have hu := hu_of hr
    have G__law_some : FnOk P w K mg base CX0 2 (A 10) (D 10) ["_law_source_here", "_law_names", "_law_share"] (sp__law_some K) := ok__law_some T
    have G__law_draw : FnOk P w K mg base CX0 1 (A 8) (D 8) ["_law_source_here", "_law_limit"] (sp__law_draw K) := ok__law_draw T
    have G__law_pool : FnOk P w K mg base CX0 1 (A 9) (D 9) [] (sp__law_pool K) := ok__law_pool T
    refine ⟨_, (pss_cons (ps_set (i := 1) sc__law_theory.nd rfl (Or.inl rfl) (pe_slice sl_list (pe_call G__law_some (hr.mono (by decide)) rfl T.g__law_some T.F__law_some.kp T.b__law_some .nil pass0 (pa_cons (pv 0) (pa_cons (pe_call0 G__law_pool (hr.mono (by decide)) rfl T.g__law_pool T.F__law_pool.kp T.b__law_pool .nil pass0) (pa_cons pe_int pa_nil)))) po_none (po_some pe_int)))
      (pss_cons (ps_set (i := 2) sc__law_theory.nd rfl (Or.inl rfl) (pe_lst pa_nil))
      (pss_cons (ps_for PassesOwn.never rfl (pi_range1 rfl T.z_range (pa_cons (pe_call G__law_draw (hr.mono (by decide)) rfl T.g__law_draw T.F__law_draw.kp T.b__law_draw .nil pass0 (pa_cons (pv 0) (pa_cons pe_int pa_nil))) pa_nil)) (pg_name (i := 3) sc__law_theory.nd rfl (Or.inl rfl))
        (pss_cons (ps_set (i := 4) sc__law_theory.nd rfl (Or.inl rfl) (pe_slice sl_list (pe_call G__law_some (hr.mono (by decide)) rfl T.g__law_some T.F__law_some.kp T.b__law_some .nil pass0 (pa_cons (pv 0) (pa_cons (pv 1) (pa_cons pe_int pa_nil)))) po_none (po_some pe_int)))
        (pss_cons (ps_set (i := 5) sc__law_theory.nd rfl (Or.inl rfl) (pe_lst pa_nil))
        (pss_cons (ps_for PassesOwn.never rfl (pi_range1 rfl T.z_range (pa_cons (pe_op op_pow pe_int pe_int) pa_nil)) (pg_name (i := 6) sc__law_theory.nd rfl (Or.inl rfl))
          (pss_cons (ps_set (i := 7) sc__law_theory.nd rfl (Or.inl rfl) (pe_slice sl_list (pe_lst (pa_cons (pe_op op_fdiv (pv 6) pe_int) (pa_cons (pe_op op_mod (pv 6) pe_int) pa_nil))) po_none (po_some (pe_callB (id := "len") (cK_len (K := K) rfl) (by rfl) T.z_len (by decide +kernel) (pa_cons (pv 4) pa_nil)))))
          (pss_one (ps_if (PW.pt (pw_and (pt_cmpR op_eq (pe_call G__law_draw (hr.mono (by decide)) rfl T.g__law_draw T.F__law_draw.kp T.b__law_draw .nil pass0 (pa_cons (pv 0) (pa_cons pe_int pa_nil))) pe_int (nomark _)) (pw_and1 (pt_cmpR (oP_nin (K := K) rfl hr.units) (pe_callTy (T := "tuple") (cK_tuple (K := K) rfl) (by rfl) T.z_tuple (by decide +kernel) (pa_cons (pv 7) pa_nil)) (pv 5) rfl))))
            (pss_one (ps_expr (pe_bm PySem.F.plainAttrs_list PySem.F.slot_list_append PySem.F.type_list_append mt_append (pv 5) (pa_cons (pe_callTy (T := "tuple") (cK_tuple (K := K) rfl) (by rfl) T.z_tuple (by decide +kernel) (pa_cons (pv 7) pa_nil)) pa_nil))))
            pss_nil))))
        (pss_one (ps_expr (pe_bm PySem.F.plainAttrs_list PySem.F.slot_list_append PySem.F.type_list_append mt_append (pv 2) (pa_cons (pe_tup (pa_cons (pe_callTy (T := "tuple") (cK_tuple (K := K) rfl) (by rfl) T.z_tuple (by decide +kernel) (pa_cons (pv 4) pa_nil)) (pa_cons (pe_callTy (T := "tuple") (cK_tuple (K := K) rfl) (by rfl) T.z_tuple (by decide +kernel) (pa_cons (pe_callB (id := "sorted") (cQ_sorted (K := K) rfl hr.units) (by rfl) T.z_sorted (by decide +kernel) (pa_cons (pv 5) pa_nil)) pa_nil)) pa_nil))) pa_nil))))))))
      (pss_one (ps_ret (pe_tup (pa_cons (pe_callTy (T := "tuple") (cK_tuple (K := K) rfl) (by rfl) T.z_tuple (by decide +kernel) (pa_cons (pv 1) pa_nil)) (pa_cons (pe_callTy (T := "tuple") (cK_tuple (K := K) rfl) (by rfl) T.z_tuple (by decide +kernel) (pa_cons (pv 2) pa_nil)) pa_nil)))))))), ?_⟩
    walk_at "st"
    refine ⟨_, rfl, rfl, fun pp hpp => ?_⟩
    have ppa : pp ≠ a := fun e => by subst e; obtain ⟨_, _, e⟩ := hs; rw [hpp] at e; cases e
    refine ⟨a, pp, pool, 2, rfl, hs.kp (Kp.new (A := []) hpp) List.not_mem_nil, ppa, upd_same, by decide, by decide, by decide, fun sub sp H1 hsub hsp k1 s1 e1 => ?_⟩
    refine ⟨5, rfl, sp, _, rfl, SqL.of e1, fun nm hnm => ?_⟩
    have ecut : cutV (sub.map V.str) none (some (5 : Int)) = (sub.take 5).map V.str := by rw [show (5 : Int) = ((5 : Nat) : Int) from rfl, cut_take, List.map_take]
    have hns : Asc (sub.take 5) := pool_asc.sublist ((List.take_sublist _ _).trans hsub)
    have hnp : ∀ x ∈ sub.take 5, x ∈ pool := fun x hx => hsub.subset (List.mem_of_mem_take hx)
    have hnl : (sub.take 5).length ≤ 5 := List.length_take_le _ _
    have k1' : Kp [a] H H1 := (Kp.new hpp).trans k1
    have k2 : Kp [a] H (upd H1 nm (.lst (cutV (sub.map V.str) none (some (5 : Int))))) := k1'.trans (Kp.new hnm)
    have s2 : Src (upd H1 nm (.lst (cutV (sub.map V.str) none (some (5 : Int))))) a := s1.kp (Kp.new (A := []) hnm) List.not_mem_nil
    have e2 : upd H1 nm (.lst (cutV (sub.map V.str) none (some (5 : Int)))) nm = some (.lst ((sub.take 5).map V.str)) := by rw [upd_same, ecut]
    have nma : nm ≠ a := fun e => by subst e; obtain ⟨_, _, e⟩ := s1; rw [hnm] at e; cases e
    revert k2 s2 e2 hns hnp hnl
    generalize sub.take 5 = ns
    intro hns hnp hnl k2 s2 e2
    walk_at "st"
    refine ⟨sz (by simp), fun c hc => ?_⟩
    have ca : c ≠ a := fun e => by subst e; obtain ⟨_, _, e⟩ := s2; rw [hc] at e; cases e
    have nmc : nm ≠ c := ne_of_none e2 hc
    have hcH : H c = none := by
      cases e : H c with
      | none => rfl
      | some o =>
        have := k2 c o e (.inl (by simpa using ca))
        rw [hc] at this; cases this
    refine seq_forK ?_
    refine ⟨_, rfl, a, 4, rfl, s2.kp (Kp.new (A := []) hc) List.not_mem_nil, by decide, by decide, fun r0 H4 r00 r01 k4 s4 => ?_⟩
    have e4 : H4 nm = some (.lst (ns.map V.str)) := k4.get ((Kp.new (A := []) hc).get e2 (.inl List.not_mem_nil)) (.inl (by simpa using nma))
    have c4 : H4 c = some (.lst []) := k4.get upd_same (.inl (by simpa using ca))
    have k4' : Kp [a] H H4 := (k2.trans (Kp.new hc)).trans k4
    refine ⟨_, rfl, by omega, by omega, for_seq walk_range (fun i σ H' => ∃ (cs : List PyData) (cvs : List V) (v3 v4 v5 v6 v7 : Option V), σ = [some (.ref a), some (.ref nm), some (.ref c), v3, v4, v5, v6, v7] ∧ H' nm = some (.lst (ns.map V.str)) ∧ H' c = some (.lst cvs) ∧ DvAll [] K H' cvs cs ∧ Gc cs ∧ cs.length = i ∧ Kp [a] H H' ∧ Src H' a)
      ⟨[], [], _, _, _, _, _, rfl, e4, c4, .nil, Gc.nil, rfl, k4', s4⟩ (fun _ _ _ _ _ => trivial) ?_ ?_⟩
    · rintro i v σ H5 H6 hi ⟨cs, cvs, v3, v4, v5, v6, v7, rfl, e6, c6, hd6, g6, l6, k6, s6⟩ ⟨rfl, rfl⟩
      walk_at "st"
      refine ⟨_, rfl, _, rfl, a, nm, ns, 2, rfl, s6, nma, e6, by omega, by decide, by decide, fun sub2 sp2 H7 hsub2 hsp2 k7 s7 e7 => ?_⟩
      refine ⟨2, rfl, sp2, _, rfl, SqL.of e7, fun mp hmp => ?_⟩
      have ecut2 : cutV (sub2.map V.str) none (some (2 : Int)) = (sub2.take 2).map V.str := by rw [show (2 : Int) = ((2 : Nat) : Int) from rfl, cut_take, List.map_take]
      rw [ecut2]
      have hml : (sub2.take 2).length ≤ 2 := List.length_take_le _ _
      revert hml
      generalize sub2.take 2 = mn
      intro hml
      have c7 : H7 c = some (.lst cvs) := k7.get c6 (.inl (by simpa using ca))
      have e7' : H7 nm = some (.lst (ns.map V.str)) := k7.get e6 (.inl (by simpa using nma))
      have kmp : Kp [] H7 (upd H7 mp (.lst (mn.map V.str))) := Kp.new hmp
      have mpa : mp ≠ a := fun e => by subst e; obtain ⟨_, _, e⟩ := s7; rw [hmp] at e; cases e
      have mpc : mp ≠ c := fun e => by subst e; rw [hmp] at c7; cases c7
      walk_at "st"
      refine ⟨sz (by simp), fun p hp => ?_⟩
      have kpp : Kp [] (upd H7 mp (.lst (mn.map V.str))) (upd (upd H7 mp (.lst (mn.map V.str))) p (.lst [])) := Kp.new hp
      have s8 := s7.kp (kmp.trans kpp) List.not_mem_nil
      have pa : p ≠ a := fun e => by subst e; obtain ⟨_, _, e⟩ := s7.kp kmp List.not_mem_nil; rw [hp] at e; cases e
      have pc : c ≠ p := ne_of_none (kmp.get c7 (.inl List.not_mem_nil)) hp
      have pmp : mp ≠ p := ne_of_none (upd_same (H := H7) (o := .lst (mn.map V.str)) (a := mp)) hp
      refine seq_forK ?_
      have p8 : upd (upd H7 mp (.lst (mn.map V.str))) p (.lst []) p = some (.lst []) := upd_same
      have m8 := kpp.get (upd_same (H := H7) (o := .lst (mn.map V.str)) (a := mp)) (.inl List.not_mem_nil)
      have c8 := (kmp.trans kpp).get c7 (.inl List.not_mem_nil)
      have n8 := (kmp.trans kpp).get e7' (.inl List.not_mem_nil)
      have k8 : Kp [a] H6 (upd (upd H7 mp (.lst (mn.map V.str))) p (.lst [])) := k7.trans (kmp.trans kpp).nil
      have p6 : H6 p = none := by
        cases e : H6 p with
        | none => rfl
        | some o =>
          have h7 := k7 p o e (.inl (by simpa using pa))
          have := kmp p o h7 (.inl List.not_mem_nil)
          rw [hp] at this; cases this
      clear s7 e7' e7 c7
      refine ⟨_, _, rfl, rfl, ⟨by decide, by decide, by decide⟩, _, rfl, by decide, by decide, for_seq walk_range (fun j σ H' => ∃ (rs : List (List Int)) (rvs : List V) (v6 v7 : Option V), σ = [some (.ref a), some (.ref nm), some (.ref c), some (.int (0 + (i : Int))), some (.ref mp), some (.ref p), v6, v7] ∧ H' p = some (.lst rvs) ∧ DvAll [] K H' rvs (rs.map rowD) ∧ (∀ r ∈ rs, r.length = mn.length) ∧ (mn.length = 0 → rs.length ≤ 1) ∧ rs.length ≤ j ∧ Kp [a] H6 H' ∧ H' mp = some (.lst (mn.map V.str)) ∧ Src H' a)
        ⟨[], [], _, _, rfl, p8, .nil, (fun r h => nomatch h), (fun _ => Nat.zero_le _), Nat.le_refl _, k8, m8, s8⟩ (fun _ _ _ _ _ => trivial) ?_ ?_⟩
      · rintro j v σ H9 H10 hj ⟨rs, rvs, u6, u7, rfl, p10, d10, hr10, h110, l10, k10, m10, s10⟩ ⟨rfl, rfl⟩
        walk_at "st"
        refine ⟨_, rfl, _, _, rfl, rfl, ⟨by decide, by decide⟩, _, rfl, _, _, rfl, rfl, (by show (0:Int) < 3; decide), sz (by simp), fun l hl => ?_⟩
        have kl : ∀ o, Kp [] H10 (upd H10 l o) := fun o => Kp.new hl
        refine ⟨_, rfl, _, mn.length, rfl, .inl ⟨_, SqL.of ((kl _).get m10 (.inl List.not_mem_nil)), by rw [List.length_map]⟩, _, rfl, l, _, rfl, SqL.of upd_same, fun w' hw => ?_⟩
        have e3 : ∀ x y : Int, cutV [V.int x, .int y] none (some (mn.length : Int)) = (([x, y] : List Int).take mn.length).map V.int := fun x y => by rw [cut_take, List.map_take]; rfl
        rw [e3]
        have rl : ∀ x y : Int, (([x, y] : List Int).take mn.length).length = mn.length := fun x y => by rw [List.length_take]; simp; omega
        have rl' := rl ((0 + (j : Int)) / 3) ((0 + (j : Int)) % 3)
        revert rl'
        generalize ([(0 + (j : Int)) / 3, (0 + (j : Int)) % 3] : List Int).take mn.length = row
        intro rl'
        have kw : Kp [] H10 _ := (kl (.lst [.int ((0 + (j : Int)) / 3), .int ((0 + (j : Int)) % 3)])).trans (Kp.new (o := .lst (row.map V.int)) hw)
        walk_at "st"
        have s11 := s10.kp kw List.not_mem_nil
        have w11 : upd (upd H10 l (.lst [.int ((0 + (j : Int)) / 3), .int ((0 + (j : Int)) % 3)])) w' (.lst (row.map V.int)) w' = some (.lst (row.map V.int)) := upd_same
        have wa : w' ≠ a := fun e => by subst e; obtain ⟨_, _, e⟩ := s10.kp (kl _) List.not_mem_nil; rw [hw] at e; cases e
        refine ⟨_, rfl, a, 2, rfl, s11, by decide, by decide, fun r1 H12 r10 r11 k12 s12 => ?_⟩
        have p12 : H12 p = some (.lst rvs) := k12.get (kw.get p10 (.inl List.not_mem_nil)) (.inl (by simpa using pa))
        have w12 : H12 w' = some (.lst (row.map V.int)) := k12.get w11 (.inl (by simpa using wa))
        have m12 : H12 mp = some (.lst (mn.map V.str)) := k12.get (kw.get m10 (.inl List.not_mem_nil)) (.inl (by simpa using mpa))
        have d12 := d10.mv (flatTs_map rowD_flat rs) (kw.nil.trans k12)
        have k13 : Kp [a] H6 H12 := k10.trans (kw.nil.trans k12)
        have stay : ∀ H', Kp [] H12 H' → ∃ (rs : List (List Int)) (rvs : List V) (v6 v7 : Option V), [some (V.ref a), some (.ref nm), some (.ref c), some (.int (0 + (i : Int))), some (.ref mp), some (.ref p), some (.int (0 + (j : Int))), some (.ref w')] = [some (.ref a), some (.ref nm), some (.ref c), some (.int (0 + (i : Int))), some (.ref mp), some (.ref p), v6, v7] ∧ H' p = some (.lst rvs) ∧ DvAll [] K H' rvs (rs.map rowD) ∧ (∀ r ∈ rs, r.length = mn.length) ∧ (mn.length = 0 → rs.length ≤ 1) ∧ rs.length ≤ j + 1 ∧ Kp [a] H6 H' ∧ H' mp = some (.lst (mn.map V.str)) ∧ Src H' a := fun H' k =>
          ⟨rs, rvs, _, _, rfl, k.get p12 (.inl List.not_mem_nil), d12.mv (flatTs_map rowD_flat rs) k, hr10, h110, by omega, k13.trans k.nil, k.get m12 (.inl List.not_mem_nil), s12.kp k List.not_mem_nil⟩
        refine ⟨rfl, _, rfl, ?_⟩
        refine ite2 (fun _ => ?_) (fun _ => ?_)
        · refine ⟨_, rfl, w', _, rfl, .inl ⟨SqL.of w12, fun t1 ht1 => ?_⟩⟩
          have kt : Kp [] H12 (upd H12 t1 (.tup (row.map V.int))) := Kp.new ht1
          refine ⟨_, rfl, rowD row, rs.map rowD, .tup (SqT.of upd_same) (dv_ints (A := []) row).dp, .inl (.lst (SqL.of (kt.get p12 (.inl List.not_mem_nil))) (d12.mv (flatTs_map rowD_flat rs) kt).dp), rowD_pln row, plainAll_of (fun x hx => by obtain ⟨r, _, rfl⟩ := List.mem_map.mp hx; exact rowD_plain r), _, rfl, ?_⟩
          refine ite2 (fun cc => ?_) (fun _ => ?_)
          · have p13 := kt.get p12 (.inl List.not_mem_nil)
            walk_at "st"
            refine ⟨_, rfl, .inl ⟨rfl, _, SqL.of p13⟩, _, rfl, w', _, rfl, .inl ⟨SqL.of (kt.get w12 (.inl List.not_mem_nil)), fun t2 ht2 => ?_⟩⟩
            have kt2 : Kp [] H12 _ := kt.trans (Kp.new (o := .tup (row.map V.int)) ht2)
            have p14 := kt2.get p12 (.inl List.not_mem_nil)
            have ln := d12.length
            rw [List.length_map] at ln
            have hj' : j < 9 := hj
            refine ⟨p, _, _, rfl, rfl, p14, szl (by omega), ?_⟩
            have kf : Kp [p] _ (upd (upd (upd H12 t1 (.tup (row.map V.int))) t2 (.tup (row.map V.int))) p (.lst (rvs ++ [.ref t2]))) := Kp.own p14 rfl (by simp)
            refine ⟨rs ++ [row], _, _, _, rfl, upd_same, ?_, fun r hr => ?_, fun hz => ?_, by simp; omega, (k13.trans kt2.nil).put p6, ?_, ?_⟩
            · rw [List.map_append]
              exact (d12.mv (flatTs_map rowD_flat rs) (kt2.nil.trans kf)).snoc (.tup (kf.sqT (SqT.of upd_same)) (dv_ints row))
            · rcases List.mem_append.mp hr with h | h
              · exact hr10 r h
              · rw [List.mem_singleton.mp h]; exact rl'
            · cases rs with
              | nil => simp
              | cons r0 rs =>
                exfalso
                have e0 : r0 = [] := List.length_eq_zero_iff.mp ((hr10 r0 (List.mem_cons_self ..)).trans hz)
                have e1 : row = [] := List.length_eq_zero_iff.mp (rl'.trans hz)
                subst e0 e1
                have cc' : (!((rowD [] :: rs.map rowD).any fun z => PyData.eqv z (rowD []))) = true := cc
                rw [List.any_cons, eqv_same (rowD_pln [])] at cc'
                simp at cc'
            · exact kf.get (kt2.get m12 (.inl List.not_mem_nil)) (.inl (by simpa using pmp))
            · exact (s12.kp kt2 List.not_mem_nil).kp kf (by simpa using Ne.symm pa)
          · exact stay _ kt
        · exact stay _ Kp.refl
      · rintro σ H9 ⟨rs, rvs, u6, u7, rfl, p9, d9, hr9, h19, l9, k9, m9, s9⟩
        have c9 : H9 c = some (.lst cvs) := k9.get c6 (.inl (by simpa using ca))
        walk_at "st"
        refine ⟨_, rfl, .inl ⟨rfl, _, SqL.of c9⟩, _, rfl, mp, _, rfl, .inl ⟨SqL.of m9, fun t1 ht1 => ?_⟩⟩
        have kt1 : Kp [] H9 (upd H9 t1 (.tup (mn.map V.str))) := Kp.new ht1
        have gr : ∀ d ∈ (rs.map rowD).mergeSort (PySem.W.dataLe false fun d => d), flatT d = true ∧ d.plain = true ∧ d.depth ≤ 3 := fun d hd => by
          obtain ⟨r, _, rfl⟩ := rows_sorted rs d hd
          exact ⟨rowD_flat r, rowD_plain r, rowD_depth r⟩
        refine ⟨_, rfl, p, rvs, rs.map rowD, rfl, SqL.of (kt1.get p9 (.inl List.not_mem_nil)), (d9.mv (flatTs_map rowD_flat rs) kt1).dp, rows_alike rs, ?_, fun d hd => ?_, fun ys p' hys hp' => ?_⟩
        · by_cases z : mn.length = 0
          · exact .inr ⟨by rw [List.length_map]; exact h19 z, fun d hd => by obtain ⟨r, _, rfl⟩ := List.mem_map.mp hd; simp [rowD]⟩
          · exact .inl (rows_sortable fun r hr e => z (by rw [← hr9 r hr, e]; rfl))
        · obtain ⟨r, _, rfl⟩ := List.mem_map.mp hd
          exact Nat.le_trans (rowD_depth r) (by decide)
        have hys' : DvAll [] K _ ys _ := Sl.DpAll.dv (flatTs_of fun d hd => (gr d hd).1) hys
        revert gr hys'
        generalize (rs.map rowD).mergeSort (PySem.W.dataLe false fun d => d) = ds'
        intro gr hys'
        have kp' : Kp [] _ (upd (upd H9 t1 (.tup (mn.map V.str))) p' (.lst ys)) := Kp.new hp'
        refine ⟨p', _, rfl, .inl ⟨SqL.of upd_same, fun t2 ht2 => ⟨sz (by simp), fun t3 ht3 => ?_⟩⟩⟩
        have kt2 : Kp [] _ (upd (upd (upd H9 t1 (.tup (mn.map V.str))) p' (.lst ys)) t2 (.tup ys)) := Kp.new ht2
        have kt3 : Kp [] _ (upd (upd (upd (upd H9 t1 (.tup (mn.map V.str))) p' (.lst ys)) t2 (.tup ys)) t3 (.tup [.ref t1, .ref t2])) := Kp.new ht3
        have kall := ((kt1.trans kp').trans kt2).trans kt3
        have c10 := kall.get c9 (.inl List.not_mem_nil)
        have ln := hd6.length
        refine ⟨c, _, _, rfl, rfl, c10, szl (by omega), ?_⟩
        have kc : Kp [c] _ (upd (upd (upd (upd (upd H9 t1 (.tup (mn.map V.str))) p' (.lst ys)) t2 (.tup ys)) t3 (.tup [.ref t1, .ref t2])) c (.lst (cvs ++ [.ref t3]))) := Kp.own c10 rfl (by simp)
        have g1 : Gc [.tuple [.tuple (mn.map .str), .tuple ds']] := by
          have h1 := strs_depth mn
          have h2 : PyData.depthAll ds' ≤ 3 := depthAll_of fun d hd => (gr d hd).2.2
          refine ⟨?_, ?_, ?_⟩
          · simp [flatTs, flatT, strs_flat, flatTs_of fun d hd => (gr d hd).1]
          · simp [PyData.plainAll, PyData.plain, strs_plain, plainAll_of fun d hd => (gr d hd).2.1]
          · simp only [PyData.depthAll, PyData.depth]; omega
        have c0 : H6 c ≠ none := by rw [c6]; exact Option.some_ne_none _
        refine ⟨cs ++ [.tuple [.tuple (mn.map .str), .tuple ds']], _, _, _, _, _, _, rfl, ?_, upd_same, ?_, g6.app g1, by simp [l6], ?_, ?_⟩
        · exact kc.get (kall.get (k9.get e6 (.inl (by simpa using nma))) (.inl List.not_mem_nil)) (.inl (by simpa using nmc))
        · refine (hd6.mv g6.f (((k9.trans kall.nil).sub (B := [a, c]) (by simp)).trans (kc.sub (by simp)))).snoc ?_
          exact .tup (kc.sqT (SqT.of upd_same)) (.cons (.tup ((((kp'.trans kt2).trans kt3).nil.trans kc).sqT (SqT.of upd_same)) (dv_strs mn)) (.cons (.tup ((kt3.nil.trans kc).sqT (SqT.of upd_same)) (hys'.mv (flatTs_of fun d hd => (gr d hd).1) (((kp'.trans kt2).trans kt3).nil.trans kc))) .nil))
        · exact (k6.trans (k9.trans kall.nil)).put hcH
        · exact (s9.kp kall List.not_mem_nil).kp kc (by simpa using Ne.symm ca)
    · rintro σ H5 ⟨cs, cvs, v3, v4, v5, v6, v7, rfl, e6, c6, hd6, g6, l6, k6, s6⟩
      walk_at "st"
      refine ⟨_, rfl, nm, _, rfl, .inl ⟨SqL.of e6, fun z hz => ?_⟩⟩
      refine ⟨_, rfl, c, cvs, rfl, .inl ⟨SqL.of ((Kp.new (A := []) hz).get c6 (.inl List.not_mem_nil)), fun y hy => ⟨sz (by simp), fun t ht => ?_⟩⟩⟩
      have kz : Kp [] H5 (upd H5 z (.tup (ns.map V.str))) := Kp.new hz
      have ky : Kp [] _ (upd (upd H5 z (.tup (ns.map V.str))) y (.tup cvs)) := Kp.new hy
      have kt : Kp [] _ (upd (upd (upd H5 z (.tup (ns.map V.str))) y (.tup cvs)) t (.tup [.ref z, .ref y])) := Kp.new ht
      exact q ns cs _ _ hns hnp hnl (by omega) (k6.trans ((kz.trans ky).trans kt).nil) (s6.kp ((kz.trans ky).trans kt) List.not_mem_nil) (Th.mk' g6 (SqT.of upd_same) ((ky.trans kt).sqT (SqT.of upd_same)) (kt.sqT (SqT.of upd_same)) (hd6.mv g6.f ((kz.trans ky).trans kt)))
theorem filter_take {p : Str → Bool} {l : List Str} {i : Nat} {s : Str} (h : l[i]? = some s) : (l.take (i + 1)).filter p = (l.take i).filter p ++ (if p s then [s] else []) := by
  rw [List.take_add_one, h, Option.toList_some, List.filter_append]
  cases e : p s <;> simp [e]
def sp__law_union (K : PySem.W.Frag) : Sp := fun vs H Q _ => ∃ (l : Addr) (ls : List V) (nss : List (List Str)), vs = [.ref l] ∧ SqL K H l ls ∧ All2 (fun v ns => ∃ a, v = .ref a ∧ Sq K H a (ns.map V.str)) ls nss ∧
  ∀ r H', Kp [] H H' → H' r = some (.tup ((pool.filter fun x => decide (x ∈ nss.flatten)).map V.str)) → Q (.ref r) H'
theorem ok__law_union (T : Txt K mg A D) : FnOk P w K mg base CX0 2 (A 12) (D 12) ["_law_lists"] (sp__law_union K) := by
  refine T.F__law_union.ok sc__law_union (fun vs H Q E h => ?_) (fun cdv A' outer s H vs Q E hr h => ?_)
  · obtain ⟨l, ls, nss, rfl, hl, hall, q⟩ := h
    rfl
  · obtain ⟨l, ls, nss, rfl, hl, hall, q⟩ := h
    have hu := hu_of hr
    have G__law_pool : FnOk P w K mg base CX0 1 (A 9) (D 9) [] (sp__law_pool K) := ok__law_pool T
    refine ⟨_, (pss_cons (ps_set (i := 1) sc__law_union.nd rfl (Or.inl rfl) (pe_lst pa_nil))
      (pss_cons (ps_for PassesOwn.never rfl (iK_list (K := K) rfl (pe_call0 G__law_pool (hr.mono (by decide)) rfl T.g__law_pool T.F__law_pool.kp T.b__law_pool .nil pass0)) (pg_name (i := 2) sc__law_union.nd rfl (Or.inl rfl))
        (pss_one (ps_for PassesOwn.never rfl (iK_list (K := K) rfl (pv 0)) (pg_name (i := 3) sc__law_union.nd rfl (Or.inl rfl))
          (pss_one (ps_if (PW.pt (pw_and (pt_cmpR (oK_in (K := K) rfl) (pv 2) (pv 3) rfl) (pw_and1 (pt_cmpR (oK_nin (K := K) rfl) (pv 2) (pv 1) rfl))))
            (pss_one (ps_expr (pe_bm PySem.F.plainAttrs_list PySem.F.slot_list_append PySem.F.type_list_append mt_append (pv 1) (pa_cons (pv 2) pa_nil))))
            pss_nil)))))
      (pss_one (ps_ret (pe_callTy (T := "tuple") (cK_tuple (K := K) rfl) (by rfl) T.z_tuple (by decide +kernel) (pa_cons (pv 1) pa_nil)))))), ?_⟩
    walk_at "st"
    refine ⟨sz (by simp), fun f hf => ?_⟩
    have kf : Kp [] H (upd H f (.lst [])) := Kp.new hf
    refine seq_forK ?_
    refine ⟨rfl, fun pp hpp => ?_⟩
    have kpp : Kp [] _ (upd (upd H f (.lst [])) pp (.lst (pool.map V.str))) := Kp.new hpp
    have fpp : f ≠ pp := ne_of_none (upd_same (H := H) (o := .lst []) (a := f)) hpp
    have mono : ∀ j, ∀ s, s ∈ (nss.take j).flatten → s ∈ nss.flatten := fun j s h => by
      rw [← List.take_append_drop j nss, List.flatten_append]
      exact List.mem_append_left _ h
    refine ⟨_, rfl, ⟨_, SqL.of upd_same⟩, for_seq walk_list (fun i σ H' => ∃ (v2 v3 : Option V), σ = [some (.ref l), some (.ref f), v2, v3] ∧ Kp [] H H' ∧ H' pp = some (.lst (pool.map V.str)) ∧ H' f = some (.lst (((pool.take i).filter fun x => decide (x ∈ nss.flatten)).map V.str)))
      ⟨_, _, rfl, kf.trans kpp, upd_same, kpp.get upd_same (.inl List.not_mem_nil)⟩ (fun i σ H' _ z => by obtain ⟨_, _, _, _, e, _⟩ := z; exact SqL.of e) ?_ ?_⟩
    · rintro i v σ H1 H2 hi ⟨v2, v3, rfl, k2, p2, f2⟩ ⟨rfl, hv⟩
      rw [List.getElem?_map] at hv
      obtain ⟨s, hs, rfl⟩ := Option.map_eq_some_iff.mp hv
      refine gnK ?_
      have key : ∀ j (H3 : Hp) (a : Addr) (ns : List Str) (FX : List Str), nss[j]? = some ns → Sq K H a (ns.map V.str) → Kp [] H H3 → FX.length ≤ 8 → (∀ x ∈ FX, x ∈ pool.take i) → H3 f = some (.lst ((FX ++ if s ∈ (nss.take j).flatten then [s] else []).map V.str)) →
          An (tAnd (tTest (tOp (rIn K false) (tVar 2) (tVar 3))) (tTest (tOp (rIn K true) (tVar 2) (tVar 1)))) [some (V.ref l), some (.ref f), some (.str s), some (.ref a)] H3 (decide (s ∈ ns) && !decide (s ∈ FX ++ if s ∈ (nss.take j).flatten then [s] else [])) := by
        intro j H3 a ns FX hj hq k3 hl8 hfx e3
        refine an_and (an_cmp (vl_var rfl) (vl_var rfl) fun Q q => ⟨a, _, rfl, hq.imp (fun h => k3.sqL List.not_mem_nil h) (fun h => k3.sqT h), rfl, flat_strs _, ?_⟩) fun _ => an_cmp (vl_var rfl) (vl_var rfl) fun Q q => ⟨f, _, rfl, .inl (SqL.of e3), rfl, flat_strs _, ?_⟩
        · exact asB q (by rw [inV_strs]; rfl)
        · exact asB q (by rw [inV_strs]; rfl)
      have sp : s ∉ pool.take i := not_in_take pool_asc.nodup hs
      have hFX : ∀ x ∈ (pool.take i).filter (fun x => decide (x ∈ nss.flatten)), x ∈ pool.take i := fun x hx => (List.mem_filter.mp hx).1
      have hFl : ((pool.take i).filter fun x => decide (x ∈ nss.flatten)).length ≤ 8 := Nat.le_trans (List.length_filter_le _ _) (Nat.le_trans (List.length_take_le' _ _) (by decide))
      revert f2 hFX hFl
      generalize eFX : (pool.take i).filter (fun x => decide (x ∈ nss.flatten)) = FX
      intro f2 hFX hFl
      have sFX : s ∉ FX := fun h => sp (hFX s h)
      refine ⟨_, rfl, _, rfl, ⟨_, k2.sqL List.not_mem_nil hl⟩, for_it walk_list (fun j σ H' => ∃ v3, σ = [some (.ref l), some (.ref f), some (.str s), v3] ∧ Kp [] H H' ∧ H' pp = some (.lst (pool.map V.str)) ∧ H' f = some (.lst ((FX ++ if s ∈ (nss.take j).flatten then [s] else []).map V.str)))
        ⟨_, rfl, k2, p2, by simpa using f2⟩ (fun j σ H' _ z => by obtain ⟨_, _, k, _⟩ := z; exact k.sqL List.not_mem_nil hl) ?_ ?_⟩
      · rintro j v σ H3 H4 hj ⟨u3, rfl, k4, p4, f4⟩ ⟨rfl, hv⟩
        obtain ⟨ns, hns, a, rfl, hq⟩ := hall.at hv
        have st : (nss.take (j + 1)).flatten = (nss.take j).flatten ++ ns := by rw [List.take_add_one, hns]; simp
        refine gnK ?_
        refine if_an (key j _ a ns FX hns hq k4 hFl hFX f4) (fun c => ?_) (fun c => ?_)
        · simp only [Bool.and_eq_true, decide_eq_true_eq, Bool.not_eq_true', decide_eq_false_iff_not] at c
          have nin : s ∉ (nss.take j).flatten := fun h => c.2 (by rw [if_pos h]; simp)
          rw [if_neg nin, List.append_nil] at f4
          walk_at "st"
          refine ⟨_, rfl, .inl ⟨rfl, _, SqL.of f4⟩, _, rfl, f, _, _, rfl, rfl, f4, szl (by rw [List.length_map]; omega), ?_⟩
          have kk : Kp [f] _ (upd H4 f (.lst (FX.map V.str ++ [.str s]))) := Kp.own f4 rfl (by simp)
          refine ⟨_, rfl, k4.put hf, kk.get p4 (.inl (by simpa using Ne.symm fpp)), ?_⟩
          rw [upd_same, st, if_pos (List.mem_append_right _ c.1), List.map_append]; rfl
        · refine nextK ?_
          refine ⟨_, rfl, k4, p4, ?_⟩
          rw [f4]
          by_cases h : s ∈ (nss.take j).flatten
          · rw [if_pos h, st, if_pos (List.mem_append_left _ h)]
          · have hn : s ∉ ns := fun h' => by
              simp only [if_neg h, List.append_nil, decide_eq_true h', decide_eq_false sFX] at c
              simp at c
            rw [if_neg h, st, if_neg (by simp only [List.mem_append, not_or]; exact ⟨h, hn⟩)]
      · rintro σ H3 ⟨u3, rfl, k3, p3, f3⟩
        rw [hall.length, List.take_length] at f3
        refine ⟨_, _, rfl, k3, p3, ?_⟩
        rw [f3, filter_take hs, eFX]
        by_cases h : s ∈ nss.flatten <;> simp [h]
    · rintro σ H1 ⟨v2, v3, rfl, k1, p1, f1⟩
      rw [List.length_map, List.take_length] at f1
      walk_at "st"
      refine ⟨_, rfl, f, _, rfl, .inl ⟨SqL.of f1, fun r hr => ?_⟩⟩
      exact q r _ (k1.trans (Kp.new hr)) upd_same
/-- such theories as the law makes -/
structure GoodT (ds : List (List Str × List PyData)) : Prop where
  asc : ∀ d ∈ ds, Asc d.1
  pl : ∀ d ∈ ds, ∀ x ∈ d.1, x ∈ pool
  l1 : ∀ d ∈ ds, d.1.length ≤ 5
  l2 : ∀ d ∈ ds, d.2.length ≤ 3
theorem GoodT.b1 {ds : List (List Str × List PyData)} (h : GoodT ds) (hl : ds.length ≤ 4) : (ds.map (·.1)).flatten.length < 30 := by
  have := flatten_le (k := 5) (xss := ds.map (·.1)) fun xs hx => by obtain ⟨d, hd, rfl⟩ := List.mem_map.mp hx; exact h.l1 d hd
  rw [List.length_map] at this; omega
theorem GoodT.b2 {ds : List (List Str × List PyData)} (h : GoodT ds) (hl : ds.length ≤ 4) : (ds.map (·.2)).flatten.length ≤ 12 := by
  have := flatten_le (k := 3) (xss := ds.map (·.2)) fun xs hx => by obtain ⟨d, hd, rfl⟩ := List.mem_map.mp hx; exact h.l2 d hd
  rw [List.length_map] at this; omega
def sp__law_join_right (K : PySem.W.Frag) : Sp := fun vs H Q _ => ∃ (a : Addr), vs = [.ref a] ∧ Src H a ∧ ∀ H', Kp [a] H H' → Q (.bl true) H'
theorem ok__law_join_right (T : Txt K mg A D) : FnOk P w K mg base CX0 4 (A 13) (D 13) ["_law_source_here"] (sp__law_join_right K) := by
  refine T.F__law_join_right.ok sc__law_join_right (fun vs H Q E h => ?_) (fun cdv A' outer s H vs Q E hr h => ?_)
  · obtain ⟨a, rfl, hs, q⟩ := h
    rfl
  · obtain ⟨a, rfl, hs, q⟩ := h
    have hu := hu_of hr
    have G_join : FnOk P w K mg base CX0 2 (A 3) (D 3) ["theories"] (sp_join K) := ok_join T
    have G__law_theory : FnOk P w K mg base CX0 3 (A 11) (D 11) ["_law_source_here"] (sp__law_theory K) := ok__law_theory T
    have G__law_union : FnOk P w K mg base CX0 2 (A 12) (D 12) ["_law_lists"] (sp__law_union K) := ok__law_union T
    have G__law_draw : FnOk P w K mg base CX0 1 (A 8) (D 8) ["_law_source_here", "_law_limit"] (sp__law_draw K) := ok__law_draw T
    refine ⟨_, (pss_cons (ps_setLc (i := 1) (own := [("_law_k", 7)]) (g := gName 7) (tt := tYes) rfl sc__law_join_right.nd rfl rfl (sw_true rfl rfl rfl (by decide +kernel))  (pi_range1 rfl T.z_range (pa_cons (pe_call G__law_draw (hr.mono (by decide)) rfl T.g__law_draw T.F__law_draw.kp T.b__law_draw .nil pass0 (pa_cons (pv 0) (pa_cons pe_int pa_nil))) pa_nil)) (blkOk_by (N := N__law_join_right) (sc := defScope (topS 13)) (by decide +kernel)) (fun _ _ _ _ _ => (pg_name (i := 7) sc__law_join_right.nd rfl (Or.inl rfl))) (fun _ _ _ _ _ => pts_nil) (fun _ _ _ _ _ => (pe_call G__law_theory (hr.mono (by decide)) rfl T.g__law_theory T.F__law_theory.kp T.b__law_theory .nil pass0 (pa_cons (pv 0) pa_nil))))
      (pss_cons (ps_set (i := 2) sc__law_join_right.nd rfl (Or.inl rfl) (pe_callTy (T := "list") (cK_list (K := K) rfl) (by rfl) T.z_list (by decide +kernel) (pa_cons (pv 1) pa_nil)))
      (pss_cons (ps_set (i := 3) sc__law_join_right.nd rfl (Or.inl rfl) (pe_call G_join (hr.mono (by decide)) rfl T.g_join T.F_join.kp T.b_join .nil pass0 (pa_cons (pv 2) pa_nil)))
      (pss_cons (ps_set (i := 4) sc__law_join_right.nd rfl (Or.inl rfl) (pe_lst pa_nil))
      (pss_cons (ps_for PassesOwn.never rfl (iK_list (K := K) rfl (pv 1)) (pg_name (i := 5) sc__law_join_right.nd rfl (Or.inl rfl))
        (pss_one (ps_for PassesOwn.never rfl (iK_tup (K := K) rfl (pe_ix (xK_tup (K := K) rfl) (pv 5) pe_int (fun _ _ => rfl))) (pg_name (i := 6) sc__law_join_right.nd rfl (Or.inl rfl))
          (pss_one (ps_expr (pe_bm PySem.F.plainAttrs_list PySem.F.slot_list_append PySem.F.type_list_append mt_append (pv 4) (pa_cons (pv 6) pa_nil)))))))
      (pss_cons (ps_if (PW.pt (pw_or (pt_cmpR (oP_ne (K := K) rfl hr.units) (pv 2) (pv 1) (nomark _)) (pw_or1 (pt_cmpR (oP_ne (K := K) rfl hr.units) (pe_call G_join (hr.mono (by decide)) rfl T.g_join T.F_join.kp T.b_join .nil pass0 (pa_cons (pe_callTy (T := "tuple") (cK_tuple (K := K) rfl) (by rfl) T.z_tuple (by decide +kernel) (pa_cons (pv 1) pa_nil)) pa_nil)) (pv 3) (nomark _)))))
        (pss_one (ps_ret pe_bl))
        pss_nil)
      (pss_cons (ps_if (PW.pt (pw_or (pt_not (pt_val (pe_callB (id := "isinstance") (cK_isi (K := K) rfl) (by rfl) T.z_isinstance (by decide +kernel) (pa_cons (pv 3) (pa_cons (pe_bltn (v := .ty "tuple") (u := .type "tuple") (by rfl) T.z_tuple (by decide +kernel) rfl) pa_nil))))) (pw_or (pt_cmpR op_ne (pe_callB (id := "len") (cK_len (K := K) rfl) (by rfl) T.z_len (by decide +kernel) (pa_cons (pv 3) pa_nil)) pe_int (nomark _)) (pw_or1 (pt_not (pt_val (pe_callB (id := "isinstance") (cK_isi (K := K) rfl) (by rfl) T.z_isinstance (by decide +kernel) (pa_cons (pe_ix (xK_tup (K := K) rfl) (pv 3) pe_int (fun _ _ => rfl)) (pa_cons (pe_bltn (v := .ty "tuple") (u := .type "tuple") (by rfl) T.z_tuple (by decide +kernel) rfl) pa_nil)))))))))
        (pss_one (ps_ret pe_bl))
        pss_nil)
      (pss_one (ps_ret (pe_and (pe_cmpR (oP_eq (K := K) rfl hr.units) (pe_ix (xK_tup (K := K) rfl) (pv 3) pe_int (fun _ _ => rfl)) (pe_call G__law_union (hr.mono (by decide)) rfl T.g__law_union T.F__law_union.kp T.b__law_union .nil pass0 (pa_cons (pe_lc (own := [("_law_theory_here", 5)]) (g := gName 5) (tt := tYes) rfl sc__law_join_right.nd (iK_list (K := K) rfl (pv 1)) (blkOk_by (N := N__law_join_right) (sc := defScope (topS 13)) (by decide +kernel)) (fun _ _ _ _ _ => (pg_name (i := 5) sc__law_join_right.nd rfl (Or.inl rfl))) (fun _ _ _ _ _ => pts_nil) (fun _ _ _ _ _ => (pe_ix (xK_tup (K := K) rfl) (pv 5) pe_int (fun _ _ => rfl)))) pa_nil)) (nomark _)) (pe_one (pe_cmpR (oP_eq (K := K) rfl hr.units) (pe_callTy (T := "list") (cK_list (K := K) rfl) (by rfl) T.z_list (by decide +kernel) (pa_cons (pe_ix (xK_tup (K := K) rfl) (pv 3) pe_int (fun _ _ => rfl)) pa_nil)) (pv 4) (nomark _))))))))))))), ?_⟩
    walk_at "st"
    refine ⟨_, rfl, a, 5, rfl, hs, by decide, by decide, fun r H1 r0 r1 k1 s1 => ?_⟩
    refine ⟨_, rfl, by omega, by omega, fun p hp => lc_it walk_range (fun i H' => ∃ (tvs : List V) (ds : List (List Str × List PyData)), H' p = some (.lst tvs) ∧ Ths K H' tvs ds ∧ ds.length = i ∧ GoodT ds ∧ Kp [a] H H' ∧ Src H' a)
      ⟨[], [], upd_same, trivial, rfl, ⟨(fun d h => nomatch h), (fun d h => nomatch h), (fun d h => nomatch h), (fun d h => nomatch h)⟩, k1.trans (Kp.new hp), s1.kp (Kp.new (A := []) hp) List.not_mem_nil⟩ (fun _ _ _ _ => trivial) ?_ ?_⟩
    · rintro i x H2 H3 hi ⟨tvs, ds, h3, a3, l3, g3, k3, s3⟩ ⟨rfl, rfl⟩
      refine gnK ⟨rfl, ?_⟩
      refine yesK ?_
      refine iteT ?_
      refine ⟨_, rfl, a, rfl, s3, fun ns cs v H4 asc pl l1 l2 k4 s4 th => ?_⟩
      have pa : p ≠ a := fun e => by subst e; obtain ⟨_, _, e⟩ := s1; rw [hp] at e; cases e
      have h4 := k4.get h3 (.inl (by simpa using pa))
      have ln := a3.length
      have kk : Kp [p] H4 (upd H4 p (.lst (tvs ++ [v]))) := Kp.own h4 rfl (by simp)
      have pH : H p = none := by
        cases e : H p with
        | none => rfl
        | some o =>
          have := k1 p o e (.inl (by simpa using pa))
          rw [hp] at this; cases this
      refine ⟨tvs, h4, szl (by omega), tvs ++ [v], ds ++ [(ns, cs)], upd_same, All2.snoc (Ths.kp (k4.sub (B := [a, p]) (by simp)) a3 |> Ths.kp kk) (th.kp kk), by simp [l3], ⟨fun d hd => ?_, fun d hd => ?_, fun d hd => ?_, fun d hd => ?_⟩, (k3.trans k4).put pH, s4.kp kk (by simpa using Ne.symm pa)⟩
      all_goals
        rcases List.mem_append.mp hd with h | h
        first | exact g3.asc d h | exact g3.pl d h | exact g3.l1 d h | exact g3.l2 d h
        rw [List.mem_singleton.mp h]
        assumption
    rintro H2 ⟨tvs, ds, h2, a2, l2, g2, k2, s2⟩
    have dl : ds.length ≤ 4 := by rw [l2]; omega
    have b1 := g2.b1 dl
    have b2 := g2.b2 dl
    have gc := Ths.gc a2
    have gcs : Gc (ds.map (·.2)).flatten := Gc.flatten fun xs hx => by obtain ⟨d, hd, rfl⟩ := List.mem_map.mp hx; exact gc d hd
    have mp : ∀ x ∈ (ds.map (·.1)).flatten, x ∈ pool := fun x hx => by
      obtain ⟨xs, hxs, hx⟩ := List.mem_flatten.mp hx
      obtain ⟨d, hd, rfl⟩ := List.mem_map.mp hxs
      exact g2.pl d hd x hx
    -- passed
    walk_at "st"
    refine ⟨_, rfl, p, tvs, rfl, .inl (SqL.of h2), fun l hl => ?_⟩
    have kl : Kp [] H2 (upd H2 l (.lst tvs)) := Kp.new hl
    walk_at "st"
    refine ⟨_, rfl, l, tvs, ds, rfl, .inl (SqL.of upd_same), Ths.kp kl a2, b1, by omega, fun ys v H3 asc mem k3 th => ?_⟩
    have k3' : Kp [] H2 H3 := kl.trans k3
    walk_at "st"
    refine ⟨sz (by simp), fun e he => ?_⟩
    have ke : Kp [] H3 (upd H3 e (.lst [])) := Kp.new he
    have p3 := k3'.get h2 (.inl List.not_mem_nil)
    have l3 := k3.get (upd_same (H := H2) (a := l) (o := .lst tvs)) (.inl List.not_mem_nil)
    have a3 : Ths K H3 tvs ds := Ths.kp k3' a2
    have kH : Kp [a] H H3 := k2.trans k3'.nil
    have tk : ∀ i, ((ds.take i).map (·.2)).flatten.length ≤ 12 := fun i => by
      have : (ds.map (·.2)).flatten = ((ds.take i).map (·.2)).flatten ++ ((ds.drop i).map (·.2)).flatten := by rw [← List.flatten_append, ← List.map_append, List.take_append_drop]
      rw [this, List.length_append] at b2; omega
    refine seq_forK ?_
    have gtk : ∀ i, Gc ((ds.take i).map (·.2)).flatten := fun i => Gc.flatten fun xs hx => by
      obtain ⟨d, hd, rfl⟩ := List.mem_map.mp hx; exact gc d (List.mem_of_mem_take hd)
    refine ⟨_, rfl, _, rfl, ⟨_, SqL.of (ke.get p3 (.inl List.not_mem_nil))⟩, for_seq walk_list (fun i σ H' => ∃ (evs : List V) (v5 v6 v7 : Option V), σ = [some (.ref a), some (.ref p), some (.ref l), some v, some (.ref e), v5, v6, v7] ∧ Kp [] H3 H' ∧ H' e = some (.lst evs) ∧ DvAll [] K H' evs ((ds.take i).map (·.2)).flatten)
      ⟨[], _, _, _, rfl, ke, upd_same, .nil⟩ (fun i σ H' _ z => by obtain ⟨_, _, _, _, _, k, _⟩ := z; exact SqL.of (k.get p3 (.inl List.not_mem_nil))) ?_ ?_⟩
    · rintro i tv σ H4 H5 hi ⟨evs, v5, v6, v7, rfl, k5, e5, d5⟩ ⟨rfl, hv⟩
      obtain ⟨d, hd, hth⟩ := a3.at hv
      obtain ⟨t, x, y, cvs, rfl, f1, f2, f3, f4⟩ := hth.inv
      have s2' : ((ds.take (i + 1)).map (·.2)).flatten = ((ds.take i).map (·.2)).flatten ++ d.2 := by rw [List.take_add_one, hd]; simp
      have tk1 := tk (i + 1)
      rw [s2', List.length_append] at tk1
      have fl := f4.length
      refine gnK ?_
      refine ⟨_, rfl, t, _, 1, _, rfl, rfl, k5.sqT f1, rfl, _, rfl, ⟨_, k5.sqT f3⟩, for_it walk_tup (fun j σ H' => ∃ (evs : List V) (v6 v7 : Option V), σ = [some (.ref a), some (.ref p), some (.ref l), some v, some (.ref e), some (.ref t), v6, v7] ∧ Kp [] H3 H' ∧ H' e = some (.lst evs) ∧ DvAll [] K H' evs (((ds.take i).map (·.2)).flatten ++ d.2.take j))
        ⟨evs, _, _, rfl, k5, e5, by simpa using d5⟩ (fun j σ H' _ z => by obtain ⟨_, _, _, _, k, _⟩ := z; exact k.sqT f3) ?_ ?_⟩
      · rintro j c σ H6 H7 hj ⟨ews, u6, u7, rfl, k7, e7, d7⟩ ⟨rfl, hc⟩
        obtain ⟨dc, hdc, hcd⟩ := f4.at hc
        have st : d.2.take (j + 1) = d.2.take j ++ [dc] := by rw [List.take_add_one, hdc]; rfl
        refine gnK ?_
        walk_at "st"
        have ln := d7.length
        rw [List.length_append] at ln
        have lt := List.length_take_le' j d.2
        refine ⟨_, rfl, .inl ⟨rfl, _, SqL.of e7⟩, _, rfl, e, _, _, rfl, rfl, e7, szl (by omega), ?_⟩
        have ko : Kp [e] H7 (upd H7 e (.lst (ews ++ [c]))) := Kp.own e7 rfl (by simp)
        have gd := gc d (List.mem_of_getElem? hd)
        have fj : flatTs (((ds.take i).map (·.2)).flatten ++ d.2.take j) = true := by
          have h1 : flatTs (d.2.take j ++ d.2.drop j) = true := by rw [List.take_append_drop]; exact gd.f
          rw [flatTs_app, Bool.and_eq_true] at h1
          rw [flatTs_app, (gtk i).f, h1.1]; rfl
        have fdc : flatT dc = true := by
          have h1 : flatTs (d.2.take (j + 1) ++ d.2.drop (j + 1)) = true := by rw [List.take_append_drop]; exact gd.f
          rw [flatTs_app, Bool.and_eq_true, st, flatTs_app, Bool.and_eq_true] at h1
          simpa [flatTs] using h1.1.2
        refine ⟨_, _, _, rfl, k7.put he, upd_same, ?_⟩
        rw [st, ← List.append_assoc]
        exact (d7.mv fj ko).snoc (hcd.mv fdc (k7.nil.trans ko))
      · rintro σ H6 ⟨ews, u6, u7, rfl, k6, e6, d6⟩
        rw [fl, List.take_length] at d6
        exact ⟨_, _, _, _, rfl, k6, e6, by rw [s2']; exact d6⟩
    rintro σ H4 ⟨evs, v5, v6, v7, rfl, k4, e4, d4⟩
    rw [a2.length, List.take_length] at d4
    have p4 := k4.get p3 (.inl List.not_mem_nil)
    have l4 := k4.get l3 (.inl List.not_mem_nil)
    have a4 : Ths K H4 tvs ds := Ths.kp k4 a3
    have th4 := th.kp k4
    have kH4 : Kp [a] H H4 := kH.trans k4.nil
    walk_at "st"
    refine ⟨_, rfl, _, rfl, _, _, .lst (.inl (.inl l4)) a4.dv.dp, .lst (.inl (.inl p4)) a4.dv.dp, ths_pln gc, ths_pln gc, _, rfl, ?_⟩
    refine ite2 (fun c => absurd c (by rw [eqv_same (ths_pln gc)]; simp)) (fun _ => ?_)
    refine ⟨_, rfl, p, _, rfl, .inl ⟨SqL.of p4, fun z hz => ?_⟩⟩
    have kz : Kp [] H4 (upd H4 z (.tup tvs)) := Kp.new hz
    refine ⟨z, tvs, ds, rfl, .inr (SqT.of upd_same), Ths.kp kz a4, b1, by omega, fun ys' v' H5 asc' mem' k5 th' => ?_⟩
    have ey : ys' = ys := asc'.ext asc fun x => (mem' x).trans (mem x).symm
    subst ey
    have k5' := kz.trans k5
    refine ⟨_, rfl, _, _, th'.dv.dp, (th4.kp k5').dv.dp, thD_pln gcs, thD_pln gcs, _, rfl, ?_⟩
    refine ite2 (fun c => absurd c (by rw [eqv_same (thD_pln gcs)]; simp)) (fun _ => ?_)
    obtain ⟨t, x, y, cvs, rfl, f1, f2, f3, f4⟩ := (th4.kp k5').inv
    have kH5 : Kp [a] H H5 := kH4.trans k5'.nil
    have p5 := k5'.get p4 (.inl List.not_mem_nil)
    have e5 := k5'.get e4 (.inl List.not_mem_nil)
    have a5 : Ths K H5 tvs ds := Ths.kp k5' a4
    have d5 := d4.mv gcs.f k5'
    walk_at "st"
    refine ⟨_, rfl, _, _, _, _, true, rfl, .ty "tuple", tyx_tup f1, kit_ty (by decide +kernel), true, rfl, ?_⟩
    refine iteF ?_
    refine ⟨_, rfl, _, 2, rfl, .inr ⟨_, f1, rfl⟩, rfl, _, rfl, ?_⟩
    refine iteF ?_
    refine ⟨_, rfl, t, _, 1, _, rfl, rfl, f1, rfl, _, _, _, _, true, rfl, .ty "tuple", tyx_tup f3, kit_ty (by decide +kernel), true, rfl, ?_⟩
    refine iteF ?_
    walk_at "st"
    refine ⟨_, rfl, t, _, 0, _, rfl, rfl, f1, rfl, ?_⟩
    refine ⟨_, rfl, _, rfl, ⟨_, SqL.of p5⟩, fun D hD => lc_it walk_list (fun i H' => ∃ xvs, H' D = some (.lst xvs) ∧ All2 (fun v ns => ∃ a, v = V.ref a ∧ SqT K H' a (ns.map V.str)) xvs ((ds.take i).map (·.1)) ∧ Kp [] H5 H')
      ⟨[], upd_same, trivial, Kp.new hD⟩ (fun i H' _ z => by obtain ⟨_, _, _, k⟩ := z; exact SqL.of (k.get p5 (.inl List.not_mem_nil))) ?_ ?_⟩
    · rintro i tv H6 H7 hi ⟨xvs, e7, u7, k7⟩ ⟨rfl, hv⟩
      obtain ⟨d, hd, hth⟩ := a5.at hv
      obtain ⟨t', x', y', cvs', rfl, g1, g2', g3, g4⟩ := hth.inv
      refine gnK ⟨rfl, ?_⟩
      refine yesK ?_
      refine iteT ?_
      have ko : Kp [D] H7 (upd H7 D (.lst (xvs ++ [.ref x']))) := Kp.own e7 rfl (by simp)
      have ln := u7.length
      rw [List.length_map, List.length_take] at ln
      refine ⟨_, rfl, t', _, 0, _, rfl, rfl, k7.sqT g1, rfl, xvs, e7, szl (by omega), xvs ++ [.ref x'], upd_same, ?_, k7.put hD⟩
      rw [List.take_add_one, hd, Option.toList_some, List.map_append]
      exact All2.snoc (All2.imp (fun v ns h => by obtain ⟨a, rfl, h⟩ := h; exact ⟨a, rfl, ko.sqT h⟩) u7) ⟨x', rfl, ko.sqT (k7.sqT g2')⟩
    rintro H6 ⟨xvs, e6, u6, k6⟩
    rw [a2.length, List.take_length] at u6
    refine ⟨D, xvs, _, rfl, SqL.of e6, All2.imp (fun v ns h => by obtain ⟨a, rfl, h⟩ := h; exact ⟨a, rfl, .inr h⟩) u6, fun r7 H7 k7 e7 => ?_⟩
    rw [union_eq asc mem mp] at e7
    have k67 := k6.trans k7
    refine ⟨_, _, .tup (k67.sqT f2) (dv_strs (A := []) ys').dp, .tup (SqT.of e7) (dv_strs (A := []) ys').dp, nm_pln ys', nm_pln ys', _, rfl, ?_⟩
    rw [eqv_same (nm_pln ys')]
    refine iteT ?_
    refine ⟨_, rfl, t, _, 1, _, rfl, rfl, k67.sqT f1, rfl, y, cvs, rfl, .inr (k67.sqT f3), fun l2 hl2 => ?_⟩
    have kl2 := k67.trans (Kp.new (o := .lst cvs) hl2)
    refine ⟨_, rfl, _, _, .lst (.inl (.inl upd_same)) (f4.mv gcs.f kl2).dp, .lst (.inl (.inl (kl2.get e5 (.inl List.not_mem_nil)))) (d5.mv gcs.f kl2).dp, cs_pln gcs, cs_pln gcs, ?_⟩
    exact asB (q _ (kH5.trans kl2.nil)) (eqv_same (cs_pln gcs)).symm
def sp__law_widen_right (K : PySem.W.Frag) : Sp := fun vs H Q _ => ∃ (a : Addr), vs = [.ref a] ∧ Src H a ∧ ∀ H', Kp [a] H H' → Q (.bl true) H'
theorem ok__law_widen_right (T : Txt K mg A D) : FnOk P w K mg base CX0 4 (A 14) (D 14) ["_law_source_here"] (sp__law_widen_right K) := by
  refine T.F__law_widen_right.ok sc__law_widen_right (fun vs H Q E h => ?_) (fun cdv A' outer s H vs Q E hr h => ?_)
  · obtain ⟨a, rfl, hs, q⟩ := h
    rfl
  · obtain ⟨a, rfl, hs, q⟩ := h
    have hu := hu_of hr
    have G__law_theory : FnOk P w K mg base CX0 3 (A 11) (D 11) ["_law_source_here"] (sp__law_theory K) := ok__law_theory T
    have G_widen : FnR P w K mg base CX0 2 (A 4) (star 1 (sp_widen K)) := ok_widen T
    have G__law_some : FnOk P w K mg base CX0 2 (A 10) (D 10) ["_law_source_here", "_law_names", "_law_share"] (sp__law_some K) := ok__law_some T
    have G__law_pool : FnOk P w K mg base CX0 1 (A 9) (D 9) [] (sp__law_pool K) := ok__law_pool T
    have G__law_union : FnOk P w K mg base CX0 2 (A 12) (D 12) ["_law_lists"] (sp__law_union K) := ok__law_union T
    refine ⟨_, (pss_cons (ps_set (i := 1) sc__law_widen_right.nd rfl (Or.inl rfl) (pe_call G__law_theory (hr.mono (by decide)) rfl T.g__law_theory T.F__law_theory.kp T.b__law_theory .nil pass0 (pa_cons (pv 0) pa_nil)))
      (pss_cons (ps_if (pt_cmpR (oP_ne (K := K) rfl hr.units) (pe_callF G_widen (hr.mono (by decide)) T.F_widen.kp rfl T.g_widen pass0 (pa_cons (pv 1) pa_nil)) (pv 1) (nomark _))
        (pss_one (ps_ret pe_bl))
        pss_nil)
      (pss_cons (ps_set (i := 2) sc__law_widen_right.nd rfl (Or.inl rfl) (pe_op op_cat (pe_callTy (T := "list") (cK_list (K := K) rfl) (by rfl) T.z_list (by decide +kernel) (pa_cons (pe_ix (xK_tup (K := K) rfl) (pv 1) pe_int (fun _ _ => rfl)) pa_nil)) (pe_lst (pa_cons pe_str pa_nil))))
      (pss_cons (ps_set (i := 3) sc__law_widen_right.nd rfl (Or.inl rfl) (pe_callF G_widen (hr.mono (by decide)) T.F_widen.kp rfl T.g_widen pass0 (pa_cons (pv 1) (pa_cons pe_str pa_nil))))
      (pss_cons (ps_for PassesOwn.never rfl (iK_list (K := K) rfl (pe_call G__law_some (hr.mono (by decide)) rfl T.g__law_some T.F__law_some.kp T.b__law_some .nil pass0 (pa_cons (pv 0) (pa_cons (pe_call0 G__law_pool (hr.mono (by decide)) rfl T.g__law_pool T.F__law_pool.kp T.b__law_pool .nil pass0) (pa_cons pe_int pa_nil))))) (pg_name (i := 4) sc__law_widen_right.nd rfl (Or.inl rfl))
        (pss_cons (ps_if (pt_cmpR (oP_ne (K := K) rfl hr.units) (pv 3) (pe_tup (pa_cons (pe_call G__law_union (hr.mono (by decide)) rfl T.g__law_union T.F__law_union.kp T.b__law_union .nil pass0 (pa_cons (pe_lst (pa_cons (pv 2) pa_nil)) pa_nil)) (pa_cons (pe_ix (xK_tup (K := K) rfl) (pv 1) pe_int (fun _ _ => rfl)) pa_nil))) (nomark _))
          (pss_one (ps_ret pe_bl))
          pss_nil)
        (pss_cons (ps_set (i := 3) sc__law_widen_right.nd rfl (Or.inl rfl) (pe_callF G_widen (hr.mono (by decide)) T.F_widen.kp rfl T.g_widen pass0 (pa_cons (pv 3) (pa_cons (pv 4) (pa_cons pe_str pa_nil)))))
        (pss_one (ps_set (i := 2) sc__law_widen_right.nd rfl (Or.inl rfl) (pe_op op_cat (pv 2) (pe_lst (pa_cons pe_str (pa_cons (pv 4) pa_nil)))))))))
      (pss_cons (ps_if (PW.pt (pw_or (pt_not (pt_val (pe_callB (id := "isinstance") (cK_isi (K := K) rfl) (by rfl) T.z_isinstance (by decide +kernel) (pa_cons (pv 3) (pa_cons (pe_bltn (v := .ty "tuple") (u := .type "tuple") (by rfl) T.z_tuple (by decide +kernel) rfl) pa_nil))))) (pw_or1 (pt_not (pt_val (pe_callB (id := "isinstance") (cK_isi (K := K) rfl) (by rfl) T.z_isinstance (by decide +kernel) (pa_cons (pe_ix (xK_tup (K := K) rfl) (pv 3) pe_int (fun _ _ => rfl)) (pa_cons (pe_bltn (v := .ty "tuple") (u := .type "tuple") (by rfl) T.z_tuple (by decide +kernel) rfl) pa_nil))))))))
        (pss_one (ps_ret pe_bl))
        pss_nil)
      (pss_one (ps_ret (pe_cmpR (oP_eq (K := K) rfl hr.units) (pv 3) (pe_tup (pa_cons (pe_call G__law_union (hr.mono (by decide)) rfl T.g__law_union T.F__law_union.kp T.b__law_union .nil pass0 (pa_cons (pe_lst (pa_cons (pv 2) pa_nil)) pa_nil)) (pa_cons (pe_ix (xK_tup (K := K) rfl) (pv 1) pe_int (fun _ _ => rfl)) pa_nil))) (nomark _)))))))))), ?_⟩
    walk_at "st"
    refine ⟨_, rfl, a, rfl, hs, fun ns cs v H1 asc pl l1 l2 k1 s1 th => ?_⟩
    have gcs := th.g
    walk_at "st"
    refine ⟨_, rfl, [v], [], rfl, rfl, sz (by simp), fun t0 ht0 => ⟨v, t0, ns, [], cs, rfl, th.kp (Kp.new (A := []) ht0), SqT.of upd_same, by simp; omega, fun ys v' H2 asc' mem' k2 th2 => ?_⟩⟩
    have k2' : Kp [] H1 H2 := (Kp.new ht0).trans k2
    have ey : ys = ns := asc'.ext asc fun x => (mem' x).trans (by simp)
    subst ey
    have th2' := th.kp k2'
    refine ⟨_, rfl, _, _, th2.dv.dp, th2'.dv.dp, thD_pln gcs, thD_pln gcs, _, rfl, ?_⟩
    refine ite2 (fun c => absurd c (by rw [eqv_same (thD_pln gcs)]; simp)) (fun _ => ?_)
    obtain ⟨t, x, y, cvs, rfl, f1, f2, f3, f4⟩ := th2'.inv
    have kA2 : Kp [a] H H2 := k1.trans k2'.nil
    have s2 := s1.kp k2' List.not_mem_nil
    have inPool : ("ab" : Str) ∈ pool ∧ ("b" : Str) ∈ pool := by decide +kernel
    walk_at "st"
    refine ⟨_, rfl, t, _, 0, _, rfl, rfl, f1, rfl, x, _, rfl, .inr f2, fun l hl => ⟨sz (by simp), fun m hm => ⟨l, m, ys.map V.str, [.str "ab"], rfl, rfl, (Kp.new (A := []) hm).get upd_same (.inl List.not_mem_nil), upd_same, sz (by simp; omega), fun e he => ?_⟩⟩⟩
    have k3 : Kp [] H2 _ := ((Kp.new (A := []) (o := .lst (ys.map V.str)) hl).trans (Kp.new (o := .lst [.str "ab"]) hm)).trans (Kp.new (o := .lst (ys.map V.str ++ [.str "ab"])) he)
    have ee : ys.map V.str ++ [V.str "ab"] = (ys ++ (["ab"] : List Str)).map V.str := by rw [List.map_append]; rfl
    rw [ee] at k3 ⊢
    walk_at "st"
    refine ⟨_, rfl, [.ref t], [.str "ab"], rfl, rfl, sz (by simp), fun t1 ht1 => ⟨.ref t, t1, ys, ["ab"], cs, rfl, (th2'.kp k3).kp (Kp.new (A := []) ht1), SqT.of upd_same, by simp; omega, fun ys1 v1 H4 asc1 mem1 k4 th4 => ?_⟩⟩
    have k4' := (Kp.new (A := []) ht1).trans k4
    have e4 := k4'.get (upd_same) (.inl List.not_mem_nil)
    have k24 : Kp [] H2 H4 := k3.trans k4'
    have s4 := s2.kp k24 List.not_mem_nil
    refine seq_forK ?_
    refine ⟨_, rfl, rfl, fun pp hpp => ?_⟩
    have ppa : pp ≠ a := fun e => by subst e; obtain ⟨_, _, e⟩ := s4; rw [hpp] at e; cases e
    have kpp : Kp [] H4 (upd H4 pp (.lst (pool.map V.str))) := Kp.new hpp
    refine ⟨a, pp, pool, 3, rfl, s4.kp kpp List.not_mem_nil, ppa, upd_same, by decide, by decide, by decide, fun sub sp H5 hsub hsp k5 s5 e5 => ?_⟩
    have ea : e ≠ a := fun z => by
      subst z
      obtain ⟨_, _, z⟩ := s2.kp ((Kp.new (A := []) (o := .lst (ys.map V.str)) hl).trans (Kp.new (o := .lst [.str "ab"]) hm)) List.not_mem_nil
      rw [he] at z; cases z
    have k45 : Kp [a] H4 H5 := kpp.nil.trans k5
    have sl8 : sub.length ≤ 8 := hsub.length_le
    have th5 := th2'.kp (k24.nil.trans k45)
    obtain ⟨t', x', y', cvs', et, h1, h2, h3, h4⟩ := th5.inv
    cases et
    have tst : ∀ (E : List Str) (ys : List Str) (e : Addr) (av : V) (nv : Option V) (H6 : Hp) (Q : VK), Kp [] H5 H6 → H6 e = some (.lst (E.map V.str)) → Th K H6 av ys cs → Asc ys → (∀ x, x ∈ ys ↔ x ∈ E) → (∀ x ∈ E, x ∈ pool) →
        ∀ (R : R2), (∀ (zv : V) (H7 : Hp), Kp [] H6 H7 → Dp K H7 av (thD ys cs) → Dp K H7 zv (thD ys cs) → R av zv H7 Q) →
        tOp R (tVar 3) (tTup (tCons (tCall (sp__law_union K) [] E0 (tCons (tLst (tCons (tVar 2) tNil)) tNil)) (tCons (tOp (rIxT K) (tVar 1) (tC (V.int 1))) tNil))) [some (V.ref a), some (.ref t), some (.ref e), some av, nv] H6 Q := by
      intro E ys e av nv H6 Q k6 e6 th6 asc6 mem6 p6 R hR
      refine ⟨_, rfl, _, rfl, sz (by simp), fun m hm => ⟨m, [.ref e], [E], rfl, SqL.of upd_same, ⟨⟨e, rfl, .inl (SqL.of ((Kp.new (A := []) hm).get e6 (.inl List.not_mem_nil)))⟩, trivial⟩, fun r H7 k7 e7 => ?_⟩⟩
      have eE : [E].flatten = E := by simp
      rw [eE, union_eq asc6 mem6 p6] at e7
      have k67 := (Kp.new (A := []) hm).trans k7
      refine ⟨_, rfl, t, _, 1, _, rfl, rfl, (k6.trans k67).sqT h1, rfl, sz (by simp), fun z hz => ?_⟩
      have kz : Kp [] H7 (upd H7 z (.tup [.ref r, .ref y'])) := Kp.new hz
      refine hR _ _ (k67.trans kz) (th6.kp (k67.trans kz)).dv.dp ?_
      exact (Th.mk' gcs (SqT.of upd_same) (kz.sqT (SqT.of e7)) ((k6.trans (k67.trans kz)).sqT h3) (h4.mv gcs.f (k6.trans (k67.trans kz)))).dv.dp
    refine ⟨_, rfl, ⟨_, SqL.of e5⟩, for_seq walk_list (fun i σ H' => ∃ (E : List Str) (ys : List Str) (e : Addr) (av : V) (v4 : Option V), σ = [some (.ref a), some (.ref t), some (.ref e), some av, v4] ∧ Kp [] H5 H' ∧ H' e = some (.lst (E.map V.str)) ∧ Th K H' av ys cs ∧ Asc ys ∧ (∀ x, x ∈ ys ↔ x ∈ E) ∧ (∀ x ∈ E, x ∈ pool) ∧ E.length ≤ 6 + 2 * i)
      ⟨ys ++ (["ab"] : List Str), ys1, e, v1, _, rfl, Kp.refl, k45.get e4 (.inl (by simpa using ea)), th4.kp k45, asc1, mem1, (fun x hx => (List.mem_append.mp hx).elim (pl x) fun h => by rw [List.mem_singleton.mp h]; exact inPool.1), by simp; omega⟩ (fun i σ H' _ z => by obtain ⟨_, _, _, _, _, _, k, _⟩ := z; exact SqL.of (k.get e5 (.inl List.not_mem_nil))) ?_ ?_⟩
    · rintro i nv σ H6 H7 hi ⟨E, ys, e, av, v4, rfl, k7, e7, th7, asc7, mem7, p7, l7⟩ ⟨rfl, hv⟩
      rw [List.getElem?_map] at hv
      obtain ⟨s, hs', rfl⟩ := Option.map_eq_some_iff.mp hv
      rw [List.length_map] at hi
      have sp' : s ∈ pool := hsub.subset (List.mem_of_getElem? hs')
      walk_at "st"
      refine tst E ys e av _ H7 _ k7 e7 th7 asc7 mem7 p7 _ fun zv H8 k8 d1 d2 => ⟨_, _, d1, d2, thD_pln gcs, thD_pln gcs, _, rfl, ?_⟩
      refine ite2 (fun c => absurd c (by rw [eqv_same (thD_pln gcs)]; simp)) (fun _ => ?_)
      have yl := asc_pool_len asc7 fun x hx => p7 x ((mem7 x).mp hx)
      walk_at "st"
      refine ⟨_, rfl, _, rfl, [av], [.str s, .str "b"], rfl, rfl, sz (by simp), fun t1 ht1 => ⟨av, t1, ys, [s, "b"], cs, rfl, (th7.kp k8).kp (Kp.new (A := []) ht1), SqT.of upd_same, by simp; omega, fun ys9 v9 H9 asc9 mem9 k9 th9 => ?_⟩⟩
      have k79 := k8.trans ((Kp.new (A := []) ht1).trans k9)
      have e9 := k79.get e7 (.inl List.not_mem_nil)
      walk_at "st"
      refine ⟨_, rfl, _, rfl, sz (by simp), fun m hm => ⟨e, m, E.map V.str, [.str "b", .str s], rfl, rfl, (Kp.new (A := []) hm).get e9 (.inl List.not_mem_nil), upd_same, sz (by simp; omega), fun e' he' => ?_⟩⟩
      have kk := (Kp.new (A := []) (o := .lst [.str "b", .str s]) hm).trans (Kp.new (o := .lst (E.map V.str ++ [.str "b", .str s])) he')
      refine ⟨E ++ (["b", s] : List Str), ys9, e', v9, _, rfl, (k7.trans k79).trans kk, by rw [upd_same, List.map_append]; rfl, th9.kp kk, asc9, fun x => ?_, fun x hx => ?_, by simp; omega⟩
      · rw [mem9 x]
        simp only [List.mem_append, mem7 x, List.mem_cons, List.not_mem_nil, or_false]
        exact ⟨fun h => h.elim .inl fun h => .inr h.symm, fun h => h.elim .inl fun h => .inr h.symm⟩
      · simp only [List.mem_append, List.mem_cons, List.not_mem_nil, or_false] at hx
        rcases hx with h | rfl | rfl
        · exact p7 x h
        · exact inPool.2
        · exact sp'
    rintro σ H6 ⟨E, ys, e, av, v4, rfl, k6, e6, th6, asc6, mem6, p6, l6⟩
    obtain ⟨t2, x2, y2, cvs2, rfl, g1, g2, g3, g4⟩ := th6.inv
    walk_at "st"
    refine ⟨_, rfl, _, _, _, _, true, rfl, .ty "tuple", tyx_tup g1, kit_ty (by decide +kernel), true, rfl, ?_⟩
    refine iteF ?_
    refine ⟨_, rfl, t2, _, 0, _, rfl, rfl, g1, rfl, _, _, _, _, true, rfl, .ty "tuple", tyx_tup g2, kit_ty (by decide +kernel), true, rfl, ?_⟩
    refine iteF ?_
    walk_at "st"
    refine tst E ys e _ _ H6 _ k6 e6 th6 asc6 mem6 p6 _ fun zv H8 k8 d1 d2 => ⟨_, _, d1, d2, thD_pln gcs, thD_pln gcs, ?_⟩
    exact asB (q _ (kA2.trans ((k24.nil.trans k45).trans (k6.trans k8).nil))) (eqv_same (thD_pln gcs)).symm
theorem testK {t : TE} {σ : L2.St} {H : Hp} {R : Bool → Hp → Prop} (h : t σ H fun v H1 => ∃ b, v = .bl b ∧ R b H1) : tTest t σ H R := h
theorem opK {r : R2} {ta tb : TE} {σ : L2.St} {H : Hp} {Q : VK} (h : ta σ H fun x H1 => tb σ H1 fun y H2 => r x y H2 Q) : tOp r ta tb σ H Q := h
/-- the reading of sorted(d) -/
def rSortedD : List V → Hp → VK → Prop := fun xs H Q => ∃ (a : Addr) (kvs : List (Key × V)) (ks : List Str), xs = [.ref a] ∧ Rd H a (.dK kvs) ∧ kvs.map (·.1) = ks.map Sum.inr ∧ ks.length < 64 ∧
    ∀ ys p, ys.Perm ks → sortedS ys = true → H p = none → Q (.ref p) (upd H p (.lst (ys.map V.str)))
/-- [(n, d[n]) for n in sorted(d)] -/
theorem tbl {i : Nat} {σ : L2.St} {H : Hp} {Q : VK} {d : Addr} {kvs : List (Key × V)} {xs : List Str} (h1 : σ[i]? = some (some (.ref d))) (h2 : ∀ x, ((wipe σ [3]).set 3 (some x))[i]? = some (some (V.ref d))) (h3 : ∀ x, ((wipe σ [3]).set 3 (some x))[3]? = some (some x)) (h4 : ∀ x, wipe ((wipe σ [3]).set 3 (some x)) [3] = wipe σ [3])
    (hd : H d = some (.dK kvs)) (ht : Tb kvs xs) (hl : xs.length < 64) (q : ∀ (ys : List Str) D pvs H', Asc ys → (∀ s, s ∈ ys ↔ s ∈ xs) → Kp [] H H' → H' D = some (.lst pvs) → DvAll [] K H' pvs (prs (fOf kvs) ys) → Q (.ref D) H') :
    tLc (iList K (tCB rSortedD (tCons (tVar i) tNil))) (gName 3) tYes (tTup (tCons (tVar 3) (tCons (tDGet (tVar i) (tVar 3)) tNil))) [3] σ H Q := by
  obtain ⟨ks, ek, nd, mk⟩ := ht.m.keys
  have kl : ks.length ≤ xs.length := nodup_short nd fun x hx => (mk x).mp hx
  refine ⟨_, h1, d, kvs, ks, rfl, .inl hd, ek, by omega, fun ys p perm srt hp => ?_⟩
  have asc := asc_of_sorted srt (perm.nodup_iff.mpr nd)
  have mem : ∀ s, s ∈ ys ↔ s ∈ xs := fun s => perm.mem_iff.trans (mk s)
  have yl : ys.length < 64 := by rw [perm.length_eq]; omega
  have kp : Kp [] H (upd H p (.lst (ys.map V.str))) := Kp.new hp
  refine ⟨_, rfl, ⟨_, SqL.of upd_same⟩, fun D hD => lc_it walk_list (fun j H' => ∃ pvs, H' D = some (.lst pvs) ∧ H' p = some (.lst (ys.map V.str)) ∧ DvAll [] K H' pvs (prs (fOf kvs) (ys.take j)) ∧ Kp [] H H')
    ⟨[], upd_same, (Kp.new (A := []) hD).get upd_same (.inl List.not_mem_nil), .nil, kp.trans (Kp.new hD)⟩ (fun j H' _ z => by obtain ⟨_, _, e, _⟩ := z; exact SqL.of e) ?_ ?_⟩
  · rintro j x H2 H3 hj ⟨pvs, e3, p3, d3, k3⟩ ⟨rfl, hx⟩
    rw [List.getElem?_map] at hx
    obtain ⟨s, hs, rfl⟩ := Option.map_eq_some_iff.mp hx
    refine gnK ⟨h4 _, ?_⟩
    refine yesK ?_
    refine iteT ?_
    have hsx : s ∈ xs := (mem s).mp (List.mem_of_getElem? hs)
    have hv := ht.f hsx
    refine ⟨_, h3 _, _, h2 _, _, h3 _, d, _, rfl, hv ▸ DGet.k (k := Sum.inr s) (k3.get hd (.inl List.not_mem_nil)), sz (by simp), fun t ht' => ?_⟩
    have kt : Kp [] H3 (upd H3 t (.tup [.str s, .int (fOf kvs s)])) := Kp.new ht'
    have e4 := kt.get e3 (.inl List.not_mem_nil)
    have ln := d3.length
    rw [prs, List.length_map, List.length_take] at ln
    have DpN : D ≠ p := fun e => by subst e; rw [upd_same] at hD; cases hD
    have Dn : H D = none := by
      cases e : H D with
      | none => rfl
      | some o =>
        have := kp D o e (.inl List.not_mem_nil)
        rw [hD] at this; cases this
    have ko : Kp [D] _ (upd (upd H3 t (.tup [.str s, .int (fOf kvs s)])) D (.lst (pvs ++ [.ref t]))) := Kp.own e4 rfl (by simp)
    refine ⟨pvs, e4, szl (by omega), pvs ++ [.ref t], upd_same, ko.get (kt.get p3 (.inl List.not_mem_nil)) (.inl (by simpa using Ne.symm DpN)), ?_, (k3.trans kt).put Dn⟩
    rw [List.take_add_one, hs, Option.toList_some, prs, List.map_append]
    exact (d3.mv (prs_flat _ _) (kt.nil.trans ko)).snoc (.tup (ko.sqT (SqT.of upd_same)) (.cons (.str _) (.cons (.int _) .nil)))
  · rintro H2 ⟨pvs, e2, p2, d2, k2⟩
    rw [List.length_map, List.take_length] at d2
    exact q ys D pvs _ asc mem k2 e2 d2
def sp__law_restrict_right (K : PySem.W.Frag) : Sp := fun vs H Q _ => ∃ (a : Addr), vs = [.ref a] ∧ Src H a ∧ ∀ H', Kp [a] H H' → Q (.bl true) H'
theorem ok__law_restrict_right (T : Txt K mg A D) : FnOk P w K mg base CX0 3 (A 15) (D 15) ["_law_source_here"] (sp__law_restrict_right K) := by
  refine T.F__law_restrict_right.ok sc__law_restrict_right (fun vs H Q E h => ?_) (fun cdv A' outer s H vs Q E hr h => ?_)
  · obtain ⟨a, rfl, hs, q⟩ := h
    rfl
  · obtain ⟨a, rfl, hs, q⟩ := h
    have hu := hu_of hr
    have G__law_some : FnOk P w K mg base CX0 2 (A 10) (D 10) ["_law_source_here", "_law_names", "_law_share"] (sp__law_some K) := ok__law_some T
    have G_restrict : FnOk P w K mg base CX0 1 (A 5) (D 5) ["assignment", "names"] (sp_restrict K) := ok_restrict T
    have G__law_pool : FnOk P w K mg base CX0 1 (A 9) (D 9) [] (sp__law_pool K) := ok__law_pool T
    have G__law_draw : FnOk P w K mg base CX0 1 (A 8) (D 8) ["_law_source_here", "_law_limit"] (sp__law_draw K) := ok__law_draw T
    refine ⟨_, (pss_cons (ps_set (i := 1) sc__law_restrict_right.nd rfl (Or.inl rfl) (pe_call G__law_some (hr.mono (by decide)) rfl T.g__law_some T.F__law_some.kp T.b__law_some .nil pass0 (pa_cons (pv 0) (pa_cons (pe_call0 G__law_pool (hr.mono (by decide)) rfl T.g__law_pool T.F__law_pool.kp T.b__law_pool .nil pass0) (pa_cons pe_int pa_nil)))))
      (pss_cons (ps_set (i := 2) sc__law_restrict_right.nd rfl (Or.inr rfl) pe_dnewK)
      (pss_cons (ps_for PassesOwn.never rfl (iK_list (K := K) rfl (pv 1)) (pg_name (i := 3) sc__law_restrict_right.nd rfl (Or.inl rfl))
        (pss_one (ps_dput hu (pv 2) (pv 3) (pe_op op_sub (pe_call G__law_draw (hr.mono (by decide)) rfl T.g__law_draw T.F__law_draw.kp T.b__law_draw .nil pass0 (pa_cons (pv 0) (pa_cons pe_int pa_nil))) pe_int) rfl)))
      (C8.pss_cut (ps_if (pt_cmpR op_eq (pe_call G__law_draw (hr.mono (by decide)) rfl T.g__law_draw T.F__law_draw.kp T.b__law_draw .nil pass0 (pa_cons (pv 0) (pa_cons pe_int pa_nil))) pe_int (nomark _))
        (pss_one (ps_dput hu (pv 2) pe_str (pe_call G__law_draw (hr.mono (by decide)) rfl T.g__law_draw T.F__law_draw.kp T.b__law_draw .nil pass0 (pa_cons (pv 0) (pa_cons pe_int pa_nil))) rfl))
        pss_nil)
      (pss_cons (ps_set (i := 4) sc__law_restrict_right.nd rfl (Or.inr rfl) (pe_call G__law_some (hr.mono (by decide)) rfl T.g__law_some T.F__law_some.kp T.b__law_some .nil pass0 (pa_cons (pv 0) (pa_cons (pv 1) (pa_cons pe_int pa_nil)))))
      (pss_cons (ps_setLc (i := 5) (own := [("_law_name", 3)]) (g := gName 3) (tt := tYes) rfl sc__law_restrict_right.nd rfl rfl (sw_true rfl rfl rfl (by decide +kernel))  (iK_list (K := K) rfl (pe_callB (id := "sorted") (call_sortedD rfl) (by rfl) T.z_sorted (by decide +kernel) (pa_cons (pv 2) pa_nil))) (blkOk_by (N := N__law_restrict_right) (sc := defScope (topS 15)) (by decide +kernel)) (fun _ _ _ _ _ => (pg_name (i := 3) sc__law_restrict_right.nd rfl (Or.inl rfl))) (fun _ _ _ _ _ => pts_nil) (fun _ _ _ _ _ => (pe_tup (pa_cons (pv 3) (pa_cons (pe_dget hu (pv 2) (pv 3) (fun _ _ => rfl)) pa_nil)))))
      (pss_cons (ps_set (i := 6) sc__law_restrict_right.nd rfl (Or.inr rfl) (pe_call G_restrict (hr.mono (by decide)) rfl T.g_restrict T.F_restrict.kp T.b_restrict .nil pass0 (pa_cons (pv 2) (pa_cons (pe_callTy (T := "list") (cK_list (K := K) rfl) (by rfl) T.z_list (by decide +kernel) (pa_cons (pv 4) pa_nil)) pa_nil))))
      (pss_cons (ps_setLc (i := 7) (own := [("_law_pair", 9)]) (g := gName 9)  rfl sc__law_restrict_right.nd rfl rfl (sw_true rfl rfl rfl (by decide +kernel))  (iK_list (K := K) rfl (pv 5)) (blkOk_by (N := N__law_restrict_right) (sc := defScope (topS 15)) (by decide +kernel)) (fun _ _ _ _ _ => (pg_name (i := 9) sc__law_restrict_right.nd rfl (Or.inl rfl))) (fun _ _ _ _ _ => (pts_one (PW.pt (pw_or (pt_cmpR (oK_in (K := K) rfl) (pe_ix (xK_tup (K := K) rfl) (pv 9) pe_int (fun _ _ => rfl)) (pv 4) rfl) (pw_or1 (pt_cmpR op_eq (pe_ix (xK_tup (K := K) rfl) (pv 9) pe_int (fun _ _ => rfl)) pe_str (nomark _))))))) (fun _ _ _ _ _ => (pv 9)))
      (pss_cons (ps_if (PW.pt (pw_or (pt_not (pt_val (pe_callB (id := "isinstance") (cK_isi (K := K) rfl) (by rfl) T.z_isinstance (by decide +kernel) (pa_cons (pv 6) (pa_cons (pe_bltn (v := .ty "dict") (u := .type "dict") (by rfl) T.z_dict (by decide +kernel) rfl) pa_nil))))) (pw_or1 (pt_cmpR (oP_ne (K := K) rfl hr.units) (pe_lc (own := [("_law_name", 3)]) (g := gName 3) (tt := tYes) rfl sc__law_restrict_right.nd (iK_list (K := K) rfl (pe_callB (id := "sorted") (call_sortedD rfl) (by rfl) T.z_sorted (by decide +kernel) (pa_cons (pv 6) pa_nil))) (blkOk_by (N := N__law_restrict_right) (sc := defScope (topS 15)) (by decide +kernel)) (fun _ _ _ _ _ => (pg_name (i := 3) sc__law_restrict_right.nd rfl (Or.inl rfl))) (fun _ _ _ _ _ => pts_nil) (fun _ _ _ _ _ => (pe_tup (pa_cons (pv 3) (pa_cons (pe_dget hu (pv 6) (pv 3) (fun _ _ => rfl)) pa_nil))))) (pv 7) (nomark _)))))
        (pss_one (ps_ret pe_bl))
        pss_nil)
      (pss_cons (ps_dput hu (pv 6) pe_str pe_int rfl)
      (pss_cons (ps_set (i := 8) sc__law_restrict_right.nd rfl (Or.inr rfl) (pe_call G_restrict (hr.mono (by decide)) rfl T.g_restrict T.F_restrict.kp T.b_restrict .nil pass0 (pa_cons (pv 2) (pa_cons (pe_callTy (T := "tuple") (cK_tuple (K := K) rfl) (by rfl) T.z_tuple (by decide +kernel) (pa_cons (pv 4) pa_nil)) pa_nil))))
      (pss_cons (ps_if (pt_cmpR (oP_ne (K := K) rfl hr.units) (pe_lc (own := [("_law_name", 3)]) (g := gName 3) (tt := tYes) rfl sc__law_restrict_right.nd (iK_list (K := K) rfl (pe_callB (id := "sorted") (call_sortedD rfl) (by rfl) T.z_sorted (by decide +kernel) (pa_cons (pv 2) pa_nil))) (blkOk_by (N := N__law_restrict_right) (sc := defScope (topS 15)) (by decide +kernel)) (fun _ _ _ _ _ => (pg_name (i := 3) sc__law_restrict_right.nd rfl (Or.inl rfl))) (fun _ _ _ _ _ => pts_nil) (fun _ _ _ _ _ => (pe_tup (pa_cons (pv 3) (pa_cons (pe_dget hu (pv 2) (pv 3) (fun _ _ => rfl)) pa_nil))))) (pv 5) (nomark _))
        (pss_one (ps_ret pe_bl))
        pss_nil)
      (pss_one (ps_ret (pe_cmpR (oP_eq (K := K) rfl hr.units) (pe_lc (own := [("_law_name", 3)]) (g := gName 3) (tt := tYes) rfl sc__law_restrict_right.nd (iK_list (K := K) rfl (pe_callB (id := "sorted") (call_sortedD rfl) (by rfl) T.z_sorted (by decide +kernel) (pa_cons (pv 8) pa_nil))) (blkOk_by (N := N__law_restrict_right) (sc := defScope (topS 15)) (by decide +kernel)) (fun _ _ _ _ _ => (pg_name (i := 3) sc__law_restrict_right.nd rfl (Or.inl rfl))) (fun _ _ _ _ _ => pts_nil) (fun _ _ _ _ _ => (pe_tup (pa_cons (pv 3) (pa_cons (pe_dget hu (pv 8) (pv 3) (fun _ _ => rfl)) pa_nil))))) (pv 7) (nomark _)))))))))))))))), ?_⟩
    walk_at "st"
    refine ⟨_, rfl, rfl, fun pp hpp => ?_⟩
    have ppa : pp ≠ a := fun e => by subst e; obtain ⟨_, _, e⟩ := hs; rw [hpp] at e; cases e
    refine ⟨a, pp, pool, 2, rfl, hs.kp (Kp.new (A := []) hpp) List.not_mem_nil, ppa, upd_same, by decide, by decide, by decide, fun nd n H1 hnd hn k1 s1 e1 => ?_⟩
    have kA1 : Kp [a] H H1 := (Kp.new hpp).trans k1
    have ndl : nd.length ≤ 8 := hnd.length_le
    have na : n ≠ a := fun e => by
      subst e
      obtain ⟨_, _, e⟩ := hs.kp (Kp.new (A := []) (o := .lst (pool.map V.str)) hpp) List.not_mem_nil
      rw [hn] at e; cases e
    walk_at "st"
    intro d hd
    have da : d ≠ a := fun e => by subst e; obtain ⟨_, _, e⟩ := s1; rw [hd] at e; cases e
    have nd' : n ≠ d := ne_of_none e1 hd
    have kd : ∀ o, Kp [] H1 (upd H1 d o) := fun o => Kp.new hd
    refine seq_forK ?_
    refine ⟨_, rfl, _, rfl, ⟨_, SqL.of ((kd _).get e1 (.inl List.not_mem_nil))⟩, for_seq walk_list (fun i σ H' => ∃ (kvs : List (Key × V)) (v3 v4 v5 v6 v7 v8 v9 : Option V), σ = [some (.ref a), some (.ref n), some (.ref d), v3, v4, v5, v6, v7, v8, v9] ∧ Kp [a] H1 H' ∧ Src H' a ∧ H' d = some (.dK kvs) ∧ Tb kvs (nd.take i))
      ⟨[], _, _, _, _, _, _, _, rfl, (kd _).nil, s1.kp (kd _) List.not_mem_nil, upd_same, Tb.nil⟩ (fun i σ H' _ z => by obtain ⟨_, _, _, _, _, _, _, _, _, k, _⟩ := z; exact SqL.of (k.get e1 (.inl (by simpa using na)))) ?_ ?_⟩
    · rintro i v σ H2 H3 hi ⟨kvs, v3, v4, v5, v6, v7, v8, v9, rfl, k3, s3, d3, t3⟩ ⟨rfl, hv⟩
      rw [List.getElem?_map] at hv
      obtain ⟨s, hs', rfl⟩ := Option.map_eq_some_iff.mp hv
      refine gnK ?_
      refine ⟨_, rfl, a, 1000, rfl, s3, by decide, by decide, fun r H4 r0 r1 k4 s4 => ?_⟩
      have d4 := k4.get d3 (.inl (by simpa using da))
      have ln := mem_keys_len t3.m
      have tl := List.length_take_le' i nd
      refine ⟨_, _, rfl, rfl, _, rfl, _, rfl, d, _, rfl, DPut.k (k := Sum.inr s) d4 (szl (by omega)), ?_⟩
      refine ⟨_, _, _, _, _, _, _, _, rfl, (k3.trans k4).put hd, s4.kp (Kp.own (A := [d]) d4 rfl (by simp)) (by simpa using Ne.symm da), upd_same, ?_⟩
      rw [List.take_add_one, hs']
      exact t3.put
    rintro σ H2 ⟨kvs, v3, v4, v5, v6, v7, v8, v9, rfl, k2, s2, d2, t2⟩
    rw [List.length_map, List.take_length] at t2
    refine cutK (fun σ H' => ∃ (kvs : List (Key × V)) (xs : List Str), σ = [some (.ref a), some (.ref n), some (.ref d), v3, v4, v5, v6, v7, v8, v9] ∧ Kp [a] H1 H' ∧ Src H' a ∧ H' d = some (.dK kvs) ∧ Tb kvs xs ∧ (∀ x ∈ nd, x ∈ xs) ∧ (∀ x ∈ xs, x ∈ nd ∨ x = "") ∧ xs.length ≤ 9) ?_ ?_
    · refine if_anK ?_
      refine ⟨_, rfl, a, 2, rfl, s2, by decide, by decide, fun r H3 r0 r1 k3 s3 => ?_⟩
      have d3 := k3.get d2 (.inl (by simpa using da))
      refine ⟨rfl, _, rfl, ?_⟩
      refine ite2 (fun _ => ?_) (fun _ => ?_)
      · refine ⟨_, rfl, a, 9, rfl, s3, by decide, by decide, fun r H4 r0 r1 k4 s4 => ?_⟩
        have d4 := k4.get d3 (.inl (by simpa using da))
        have ln := mem_keys_len t2.m
        refine ⟨_, rfl, d, _, rfl, DPut.k (k := Sum.inr "") d4 (szl (by omega)), ?_⟩
        refine ⟨_, nd ++ ([""] : List Str), rfl, ((k2.trans k3).trans k4).put hd, s4.kp (Kp.own (A := [d]) d4 rfl (by simp)) (by simpa using Ne.symm da), upd_same, t2.put, fun x hx => List.mem_append_left _ hx, fun x hx => ?_, by simp; omega⟩
        rcases List.mem_append.mp hx with h | h
        · exact .inl h
        · exact .inr (List.mem_singleton.mp h)
      · exact ⟨_, nd, rfl, k2.trans k3, s3, d3, t2, fun _ h => h, fun _ h => .inl h, by omega⟩
    clear t2 d2 s2 k2
    rintro σ H2 ⟨kvs, xs, rfl, k2, s2, d2, t2, m1, m2, xl⟩
    have e2 := k2.get e1 (.inl (by simpa using na))
    walk_at "st"
    refine ⟨_, rfl, _, rfl, a, n, nd, 2, rfl, s2, na, e2, by omega, by decide, by decide, fun kept kpt H3 hkept hk k3 s3 e3 => ?_⟩
    have d3 := k3.get d2 (.inl (by simpa using da))
    have kA3 : Kp [a] H H3 := (kA1.trans k2).trans k3
    have kl : kept.length ≤ 8 := Nat.le_trans hkept.length_le ndl
    have kx : ∀ s ∈ kept, s ∈ xs := fun s h => m1 s (hkept.subset h)
    walk_at "st"
    refine tbl rfl (fun _ => rfl) (fun _ => rfl) (fun _ => rfl) d3 t2 (by omega) fun ys b pvs H4 asc mem k4 eb db => ?_
    have d4 := k4.get d3 (.inl List.not_mem_nil)
    have e4 := k4.get e3 (.inl List.not_mem_nil)
    -- what restrict answers
    have gn : ∀ s, s ∈ gnd kvs ↔ (s = "" ∧ s ∈ xs) := fun s => by
      unfold gnd
      by_cases h : (valV kvs (Sum.inr "")).isSome = true
      · rw [if_pos h]
        have := (isSome_key t2.m).mp h
        constructor
        · intro z; rw [List.mem_singleton.mp z]; exact ⟨rfl, this⟩
        · rintro ⟨rfl, _⟩; simp
      · rw [if_neg h]
        constructor
        · intro z; cases z
        · rintro ⟨rfl, z⟩; exact absurd ((isSome_key t2.m).mpr z) h
    have gl : (gnd kvs).length ≤ 1 := by unfold gnd; split <;> simp
    have ans : ∀ kvs' : List (Key × V), Mgd kvs' (gnd kvs ++ kept) → (∀ k v, valV kvs' k = some v → valV kvs k = some v) → Tb kvs' (gnd kvs ++ kept) ∧ ∀ zs, Asc zs → (∀ s, s ∈ zs ↔ s ∈ gnd kvs ++ kept) → prs (fOf kvs') zs = prs (fOf kvs) (ys.filter fun s => decide (s ∈ kept) || decide (s = "")) := fun kvs' mg sub => by
      have tb : Tb kvs' (gnd kvs ++ kept) := ⟨mg, fun k v h => t2.i k v (sub k v h)⟩
      refine ⟨tb, fun zs az mz => ?_⟩
      have ez : zs = ys.filter fun s => decide (s ∈ kept) || decide (s = "") := az.ext (asc.sublist List.filter_sublist) fun s => by
        rw [mz, List.mem_append, gn, List.mem_filter, mem]
        simp only [Bool.or_eq_true, decide_eq_true_eq]
        constructor
        · rintro (⟨h1, h2⟩ | h)
          · exact ⟨h2, .inr h1⟩
          · exact ⟨kx s h, .inl h⟩
        · rintro ⟨h1, h2 | h2⟩
          · exact .inr h2
          · exact .inl ⟨h2, h1⟩
      rw [← ez]
      refine List.map_congr_left fun s hs => ?_
      have h1 := sub _ _ (tb.f ((mz s).mp hs))
      have : fOf kvs s = fOf kvs' s := by
        conv => lhs; unfold fOf
        rw [h1]
      rw [this]
    walk_at "st"
    refine ⟨_, rfl, _, rfl, kpt, _, rfl, .inl (SqL.of e4), fun l hl => ?_⟩
    have kl4 : Kp [] H4 (upd H4 l (.lst (kept.map V.str))) := Kp.new hl
    refine ⟨d, l, kvs, kept, rfl, kl4.get d4 (.inl List.not_mem_nil), .inl (SqL.of upd_same), fun s h => (isSome_key t2.m).mpr (kx s h), by omega, fun r kvs' H5 hr0 hr k5 mg sub => ?_⟩
    obtain ⟨tb, eqp⟩ := ans kvs' mg sub
    have k45 : Kp [] H4 H5 := kl4.trans k5
    have b5 := k45.get eb (.inl List.not_mem_nil)
    have e5 := k45.get e4 (.inl List.not_mem_nil)
    have d5 := k45.get d4 (.inl List.not_mem_nil)
    have db5 := db.mv (prs_flat _ _) k45
    have rn : ∀ z o, H4 z = some o → z ≠ r := fun z o h => ne_of_none (kl4.get h (.inl List.not_mem_nil)) hr0
    walk_at "st"
    refine ⟨_, rfl, _, rfl, ⟨_, SqL.of b5⟩, fun D hD => lc_it walk_list (fun j H' => ∃ acc, H' D = some (.lst acc) ∧ DvAll [] K H' acc (prs (fOf kvs) ((ys.take j).filter fun s => decide (s ∈ kept) || decide (s = ""))) ∧ Kp [] H5 H')
      ⟨[], upd_same, .nil, Kp.new hD⟩ (fun j H' _ z => by obtain ⟨_, _, _, k⟩ := z; exact SqL.of (k.get b5 (.inl List.not_mem_nil))) ?_ ?_⟩
    · rintro j x H6 H7 hj ⟨acc, a7, d7, k7⟩ ⟨rfl, hx⟩
      obtain ⟨pd, hpd, hdv⟩ := db5.at hx
      rw [prs, List.getElem?_map] at hpd
      obtain ⟨s, hs', rfl⟩ := Option.map_eq_some_iff.mp hpd
      have hdv' := hdv.mv (by simp [flatT, flatTs]) k7
      obtain ⟨t, ws, rfl, ht, hw⟩ := hdv'.tup_inv
      cases hw with
      | cons w1 w2 =>
      cases w2 with
      | cons w3 w4 =>
      cases w4
      rw [w1.str_inv, w3.int_inv] at ht
      have ex : An (tOr (tTest (tOp (rIn K false) (tOp (rIxT K) (tVar 9) (tC (.int 0))) (tVar 4))) (tTest (tOp rEq (tOp (rIxT K) (tVar 9) (tC (.int 0))) (tC (.str ""))))) [some (.ref a), some (.ref n), some (.ref d), v3, some (.ref kpt), some (.ref b), some (.ref r), v7, v8, some (.ref t)] H7 (decide (s ∈ kept) || decide (s = "")) := by
        refine an_or (an_cmp (vl_op (vl_var rfl) vl_c fun Q q => ⟨t, _, 0, _, rfl, rfl, ht, rfl, q⟩) (vl_var rfl) fun Q q => ⟨kpt, _, rfl, .inl (SqL.of (k7.get e5 (.inl List.not_mem_nil))), rfl, flat_strs _, asB q (by rw [inV_strs]; rfl)⟩) fun _ => an_cmp (vl_op (vl_var rfl) vl_c fun Q q => ⟨t, _, 0, _, rfl, rfl, ht, rfl, q⟩) vl_c fun Q q => ⟨rfl, asB q ?_⟩
        by_cases h : s = "" <;> simp [h]
      refine gnK ⟨rfl, ?_⟩
      refine an_use ex ?_
      have fl := filter_take (p := fun s => decide (s ∈ kept) || decide (s = "")) hs'
      refine ite2 (fun c => ?_) (fun c => ?_)
      · have ln := d7.length
        rw [prs, List.length_map] at ln
        have h1 := List.length_filter_le (fun s => decide (s ∈ kept) || decide (s = "")) (ys.take j)
        have h2 := List.length_take_le' j ys
        have yl := asc_len asc fun x hx => (mem x).mp hx
        have ko : Kp [D] H7 (upd H7 D (.lst (acc ++ [.ref t]))) := Kp.own a7 rfl (by simp)
        refine ⟨_, rfl, acc, a7, szl (by omega), acc ++ [.ref t], upd_same, ?_, k7.put hD⟩
        rw [fl, if_pos c, prs, List.map_append]
        exact (d7.mv (prs_flat _ _) ko).snoc (.tup (ko.sqT ht) (.cons (.str _) (.cons (.int _) .nil)))
      · exact ⟨acc, a7, by rw [fl, if_neg c, List.append_nil]; exact d7, k7⟩
    rintro H6 ⟨acc, a6, d6, k6⟩
    have lb := db5.length
    rw [prs, List.length_map] at lb
    rw [lb, List.take_length] at d6
    revert ans eqp d6
    generalize ys.filter (fun s => decide (s ∈ kept) || decide (s = "")) = zs
    intro ans eqp d6
    have r6 := k6.get hr (.inl List.not_mem_nil)
    walk_at "st"
    refine ⟨_, rfl, _, _, _, _, true, rfl, .ty "dict", .base (.dK r6), kit_ty (by decide +kernel), true, rfl, ?_⟩
    refine iteF ?_
    refine testK (opK ?_)
    refine tbl (i := 6) ?_ (fun _ => ?_) (fun _ => ?_) (fun _ => ?_) r6 tb (by rw [List.length_append]; omega) fun ws b2 pvs2 H7 asc7 mem7 k7 eb7 db7 => ?_
    · rfl
    · rfl
    · rfl
    · rfl
    rw [eqp ws asc7 mem7] at db7
    have a7 := k7.get a6 (.inl List.not_mem_nil)
    have d7 := d6.mv (prs_flat _ _) k7
    refine ⟨_, rfl, _, _, .lst (.inl (.inl eb7)) db7.dp, .lst (.inl (.inl a7)) d7.dp, prs_pln _ _, prs_pln _ _, _, rfl, ?_⟩
    refine ite2 (fun c => absurd c (by rw [eqv_same (prs_pln _ _)]; simp)) (fun _ => ?_)
    have k57 := k6.trans k7
    have r7 := k57.get hr (.inl List.not_mem_nil)
    have ln7 := mem_keys_len tb.m
    rw [List.length_append] at ln7
    refine ⟨_, rfl, r, _, rfl, DPut.k (k := Sum.inr "a") r7 (szl (by omega)), ?_⟩
    have k8 : Kp [r] H7 (upd H7 r (.dK (putK kvs' (.inr "a") (.int 1000)))) := Kp.own r7 rfl (by simp)
    have k48 : Kp [r] H4 (upd H7 r (.dK (putK kvs' (.inr "a") (.int 1000)))) := (k45.trans k57).nil.trans k8
    have d8 := k48.get d4 (.inl (by simpa using rn d _ d4))
    have e8 := k48.get e4 (.inl (by simpa using rn kpt _ e4))
    have b8 := k48.get eb (.inl (by simpa using rn b _ eb))
    have db8 := db.mv (prs_flat _ _) k48
    have a8 := k8.get a7 (.inl (by simpa using Ne.symm (ne_of_none hr hD)))
    have dd8 := d7.mv (prs_flat _ _) k8
    have kA8 : Kp [a] H (upd H7 r (.dK (putK kvs' (.inr "a") (.int 1000)))) := by
      refine ((kA3.trans (k4.trans (k45.trans k57)).nil)).put ?_
      cases e : H r with
      | none => rfl
      | some o =>
        have ra : r ≠ a := Ne.symm (by
          obtain ⟨_, _, z⟩ := s3.kp k4 List.not_mem_nil
          exact rn a _ z)
        have := (kl4 : Kp [] H4 _) r o (k4 r o (kA3 r o e (.inl (by simpa using ra))) (.inl List.not_mem_nil)) (.inl List.not_mem_nil)
        rw [hr0] at this; cases this
    walk_at "st"
    refine ⟨_, rfl, _, rfl, kpt, _, rfl, .inl ⟨SqL.of e8, fun l2 hl2 => ?_⟩⟩
    have kl8 : Kp [] _ (upd (upd H7 r (.dK (putK kvs' (.inr "a") (.int 1000)))) l2 (.tup (kept.map V.str))) := Kp.new hl2
    refine ⟨d, l2, kvs, kept, rfl, kl8.get d8 (.inl List.not_mem_nil), .inr (SqT.of upd_same), fun s h => (isSome_key t2.m).mpr (kx s h), by omega, fun r2 kvs2 H9 hr2 hr9 k9 mg2 sub2 => ?_⟩
    obtain ⟨tb2, eqp2⟩ := ans kvs2 mg2 sub2
    have k89 := kl8.trans k9
    have d9 := k89.get d8 (.inl List.not_mem_nil)
    have b9 := k89.get b8 (.inl List.not_mem_nil)
    have a9 := k89.get a8 (.inl List.not_mem_nil)
    have db9 := db8.mv (prs_flat _ _) k89
    have dd9 := dd8.mv (prs_flat _ _) k89
    refine gnK ?_
    dsimp only
    refine seq_ifK0 (testK (opK ?_))
    refine tbl rfl (fun _ => rfl) (fun _ => rfl) (fun _ => rfl) d9 t2 (by omega) fun ws2 b3 pvs3 H10 asc10 mem10 k10 eb10 db10 => ?_
    have ew : ws2 = ys := asc10.ext asc fun x => (mem10 x).trans (mem x).symm
    subst ew
    refine ⟨_, rfl, _, _, .lst (.inl (.inl eb10)) db10.dp, .lst (.inl (.inl (k10.get b9 (.inl List.not_mem_nil)))) (db9.mv (prs_flat _ _) k10).dp, prs_pln _ _, prs_pln _ _, _, rfl, ?_⟩
    refine ite2 (fun c => absurd c (by rw [eqv_same (prs_pln _ _)]; simp)) (fun _ => ?_)
    walk_at "st"
    refine opK ?_
    refine tbl rfl (fun _ => rfl) (fun _ => rfl) (fun _ => rfl) (k10.get hr9 (.inl List.not_mem_nil)) tb2 (by rw [List.length_append]; omega) fun ws3 b4 pvs4 H11 asc11 mem11 k11 eb11 db11 => ?_
    rw [eqp2 ws3 asc11 mem11] at db11
    have k911 := k10.trans k11
    refine ⟨_, rfl, _, _, .lst (.inl (.inl eb11)) db11.dp, .lst (.inl (.inl (k911.get a9 (.inl List.not_mem_nil)))) (dd9.mv (prs_flat _ _) k911).dp, prs_pln _ _, prs_pln _ _, ?_⟩
    exact asB (q _ (kA8.trans (k89.trans k911).nil)) (eqv_same (prs_pln _ _)).symm
def sp_law (K : PySem.W.Frag) : Sp := fun vs H Q _ => ∃ (a : Addr) (ns : List Int), vs = [.ref a] ∧ SqL K H a (ns.map V.int) ∧ ns.length ≤ 63 ∧ ∀ H', Q (.bl true) H'
theorem ok_law (T : Txt K mg A D) : FnOk P w K mg base CX0 5 (A 16) (D 16) ["_law_script"] (sp_law K) := by
  refine T.F_law.ok sc_law (fun vs H Q E h => ?_) (fun cdv A' outer s H vs Q E hr h => ?_)
  · obtain ⟨a, ns, rfl, hS, hl, q⟩ := h
    rfl
  · obtain ⟨a, ns, rfl, hS, hl, q⟩ := h
    have hu := hu_of hr
    have G__law_restrict_right : FnOk P w K mg base CX0 3 (A 15) (D 15) ["_law_source_here"] (sp__law_restrict_right K) := ok__law_restrict_right T
    have G__law_join_right : FnOk P w K mg base CX0 4 (A 13) (D 13) ["_law_source_here"] (sp__law_join_right K) := ok__law_join_right T
    have G__law_widen_right : FnOk P w K mg base CX0 4 (A 14) (D 14) ["_law_source_here"] (sp__law_widen_right K) := ok__law_widen_right T
    have G__law_source : FnOk P w K mg base CX0 1 (A 7) (D 7) ["_law_script", "_law_k"] (sp__law_source K) := ok__law_source T
    refine ⟨_, (pss_cons (ps_if (pt_not (pt_val (pe_call G__law_join_right (hr.mono (by decide)) rfl T.g__law_join_right T.F__law_join_right.kp T.b__law_join_right .nil pass0 (pa_cons (pe_call G__law_source (hr.mono (by decide)) rfl T.g__law_source T.F__law_source.kp T.b__law_source .nil pass0 (pa_cons (pv 0) (pa_cons pe_int pa_nil))) pa_nil))))
        (pss_one (ps_ret pe_bl))
        pss_nil)
      (pss_cons (ps_if (pt_not (pt_val (pe_call G__law_widen_right (hr.mono (by decide)) rfl T.g__law_widen_right T.F__law_widen_right.kp T.b__law_widen_right .nil pass0 (pa_cons (pe_call G__law_source (hr.mono (by decide)) rfl T.g__law_source T.F__law_source.kp T.b__law_source .nil pass0 (pa_cons (pv 0) (pa_cons pe_int pa_nil))) pa_nil))))
        (pss_one (ps_ret pe_bl))
        pss_nil)
      (pss_one (ps_ret (pe_call G__law_restrict_right (hr.mono (by decide)) rfl T.g__law_restrict_right T.F__law_restrict_right.kp T.b__law_restrict_right .nil pass0 (pa_cons (pe_call G__law_source (hr.mono (by decide)) rfl T.g__law_source T.F__law_source.kp T.b__law_source .nil pass0 (pa_cons (pv 0) (pa_cons pe_int pa_nil))) pa_nil)))))), ?_⟩
    walk_at "st"
    refine ⟨_, rfl, a, ns, 0, rfl, hS, hl, fun p H1 hp k1 s1 => ?_⟩
    refine ⟨p, rfl, s1, fun H2 k2 => ⟨_, rfl, ?_⟩⟩
    refine iteF ?_
    have k2' : Kp [] H H2 := Kp.back hp (k1.nil.trans k2)
    walk_at "st"
    refine ⟨_, rfl, a, ns, 1, rfl, k2'.sqL List.not_mem_nil hS, hl, fun p3 H3 hp3 k3 s3 => ?_⟩
    refine ⟨p3, rfl, s3, fun H4 k4 => ⟨_, rfl, ?_⟩⟩
    refine iteF ?_
    have k4' : Kp [] H H4 := k2'.trans (Kp.back hp3 (k3.nil.trans k4))
    walk_at "st"
    refine ⟨_, rfl, a, ns, 2, rfl, k4'.sqL List.not_mem_nil hS, hl, fun p5 H5 hp5 k5 s5 => ?_⟩
    exact ⟨p5, rfl, s5, fun H6 _ => q H6⟩
end
theorem all_mk {l : PySem.W.OpenLaw} {w : World} {K : PySem.W.Frag} {h : Heap} {mg : Str → Option Value} {fa : Addr} (X : K.In h) (G : h.Ns mainGlobals mg) (hfa : mg "law" = some (.ref fa))
    {oc1 kV1 dc1 pm1 cd1 ct1 : Value} {od1 an1 : Option Addr} {sl1 : Array (Option Value)} {f1 : Addr}
    (a1 : PySem.W.nsIn K mainGlobals "merge_names" = some (some (.ref f1))) (l1 : K.lookup f1 = some ⟨oc1, od1, .func (PySem.W.fnOf "merge_names" "merge_names" (defArgs (topS 1)) (defBody (topS 1)) (defScope (topS 1)) .none kV1 dc1 pm1 an1 cd1 ct1), sl1⟩) (c1 : PySem.W.codeIn K cd1 "merge_names" = true) (k1 : PySem.W.keepIn K (.ref f1) = true)
    {oc3 kV3 dc3 pm3 cd3 ct3 : Value} {od3 an3 : Option Addr} {sl3 : Array (Option Value)} {f3 : Addr}
    (a3 : PySem.W.nsIn K mainGlobals "join" = some (some (.ref f3))) (l3 : K.lookup f3 = some ⟨oc3, od3, .func (PySem.W.fnOf "join" "join" (defArgs (topS 3)) (defBody (topS 3)) (defScope (topS 3)) .none kV3 dc3 pm3 an3 cd3 ct3), sl3⟩) (c3 : PySem.W.codeIn K cd3 "join" = true) (k3 : PySem.W.keepIn K (.ref f3) = true)
    {oc4 kV4 dc4 pm4 cd4 ct4 : Value} {od4 an4 : Option Addr} {sl4 : Array (Option Value)} {f4 : Addr}
    (a4 : PySem.W.nsIn K mainGlobals "widen" = some (some (.ref f4))) (l4 : K.lookup f4 = some ⟨oc4, od4, .func (PySem.W.fnOf "widen" "widen" (defArgs (topS 4)) (defBody (topS 4)) (defScope (topS 4)) .none kV4 dc4 pm4 an4 cd4 ct4), sl4⟩) (c4 : PySem.W.codeIn K cd4 "widen" = true) (k4 : PySem.W.keepIn K (.ref f4) = true)
    {oc5 kV5 dc5 pm5 cd5 ct5 : Value} {od5 an5 : Option Addr} {sl5 : Array (Option Value)} {f5 : Addr}
    (a5 : PySem.W.nsIn K mainGlobals "restrict" = some (some (.ref f5))) (l5 : K.lookup f5 = some ⟨oc5, od5, .func (PySem.W.fnOf "restrict" "restrict" (defArgs (topS 5)) (defBody (topS 5)) (defScope (topS 5)) .none kV5 dc5 pm5 an5 cd5 ct5), sl5⟩) (c5 : PySem.W.codeIn K cd5 "restrict" = true) (k5 : PySem.W.keepIn K (.ref f5) = true)
    {oc7 kV7 dc7 pm7 cd7 ct7 : Value} {od7 an7 : Option Addr} {sl7 : Array (Option Value)} {f7 : Addr}
    (a7 : PySem.W.nsIn K mainGlobals "_law_source" = some (some (.ref f7))) (l7 : K.lookup f7 = some ⟨oc7, od7, .func (PySem.W.fnOf "_law_source" "_law_source" (defArgs (topS 7)) (defBody (topS 7)) (defScope (topS 7)) .none kV7 dc7 pm7 an7 cd7 ct7), sl7⟩) (c7 : PySem.W.codeIn K cd7 "_law_source" = true) (k7 : PySem.W.keepIn K (.ref f7) = true)
    {oc8 kV8 dc8 pm8 cd8 ct8 : Value} {od8 an8 : Option Addr} {sl8 : Array (Option Value)} {f8 : Addr}
    (a8 : PySem.W.nsIn K mainGlobals "_law_draw" = some (some (.ref f8))) (l8 : K.lookup f8 = some ⟨oc8, od8, .func (PySem.W.fnOf "_law_draw" "_law_draw" (defArgs (topS 8)) (defBody (topS 8)) (defScope (topS 8)) .none kV8 dc8 pm8 an8 cd8 ct8), sl8⟩) (c8 : PySem.W.codeIn K cd8 "_law_draw" = true) (k8 : PySem.W.keepIn K (.ref f8) = true)
    {oc9 kV9 dc9 pm9 cd9 ct9 : Value} {od9 an9 : Option Addr} {sl9 : Array (Option Value)} {f9 : Addr}
    (a9 : PySem.W.nsIn K mainGlobals "_law_pool" = some (some (.ref f9))) (l9 : K.lookup f9 = some ⟨oc9, od9, .func (PySem.W.fnOf "_law_pool" "_law_pool" (defArgs (topS 9)) (defBody (topS 9)) (defScope (topS 9)) .none kV9 dc9 pm9 an9 cd9 ct9), sl9⟩) (c9 : PySem.W.codeIn K cd9 "_law_pool" = true) (k9 : PySem.W.keepIn K (.ref f9) = true)
    {oc10 kV10 dc10 pm10 cd10 ct10 : Value} {od10 an10 : Option Addr} {sl10 : Array (Option Value)} {f10 : Addr}
    (a10 : PySem.W.nsIn K mainGlobals "_law_some" = some (some (.ref f10))) (l10 : K.lookup f10 = some ⟨oc10, od10, .func (PySem.W.fnOf "_law_some" "_law_some" (defArgs (topS 10)) (defBody (topS 10)) (defScope (topS 10)) .none kV10 dc10 pm10 an10 cd10 ct10), sl10⟩) (c10 : PySem.W.codeIn K cd10 "_law_some" = true) (k10 : PySem.W.keepIn K (.ref f10) = true)
    {oc11 kV11 dc11 pm11 cd11 ct11 : Value} {od11 an11 : Option Addr} {sl11 : Array (Option Value)} {f11 : Addr}
    (a11 : PySem.W.nsIn K mainGlobals "_law_theory" = some (some (.ref f11))) (l11 : K.lookup f11 = some ⟨oc11, od11, .func (PySem.W.fnOf "_law_theory" "_law_theory" (defArgs (topS 11)) (defBody (topS 11)) (defScope (topS 11)) .none kV11 dc11 pm11 an11 cd11 ct11), sl11⟩) (c11 : PySem.W.codeIn K cd11 "_law_theory" = true) (k11 : PySem.W.keepIn K (.ref f11) = true)
    {oc12 kV12 dc12 pm12 cd12 ct12 : Value} {od12 an12 : Option Addr} {sl12 : Array (Option Value)} {f12 : Addr}
    (a12 : PySem.W.nsIn K mainGlobals "_law_union" = some (some (.ref f12))) (l12 : K.lookup f12 = some ⟨oc12, od12, .func (PySem.W.fnOf "_law_union" "_law_union" (defArgs (topS 12)) (defBody (topS 12)) (defScope (topS 12)) .none kV12 dc12 pm12 an12 cd12 ct12), sl12⟩) (c12 : PySem.W.codeIn K cd12 "_law_union" = true) (k12 : PySem.W.keepIn K (.ref f12) = true)
    {oc13 kV13 dc13 pm13 cd13 ct13 : Value} {od13 an13 : Option Addr} {sl13 : Array (Option Value)} {f13 : Addr}
    (a13 : PySem.W.nsIn K mainGlobals "_law_join_right" = some (some (.ref f13))) (l13 : K.lookup f13 = some ⟨oc13, od13, .func (PySem.W.fnOf "_law_join_right" "_law_join_right" (defArgs (topS 13)) (defBody (topS 13)) (defScope (topS 13)) .none kV13 dc13 pm13 an13 cd13 ct13), sl13⟩) (c13 : PySem.W.codeIn K cd13 "_law_join_right" = true) (k13 : PySem.W.keepIn K (.ref f13) = true)
    {oc14 kV14 dc14 pm14 cd14 ct14 : Value} {od14 an14 : Option Addr} {sl14 : Array (Option Value)} {f14 : Addr}
    (a14 : PySem.W.nsIn K mainGlobals "_law_widen_right" = some (some (.ref f14))) (l14 : K.lookup f14 = some ⟨oc14, od14, .func (PySem.W.fnOf "_law_widen_right" "_law_widen_right" (defArgs (topS 14)) (defBody (topS 14)) (defScope (topS 14)) .none kV14 dc14 pm14 an14 cd14 ct14), sl14⟩) (c14 : PySem.W.codeIn K cd14 "_law_widen_right" = true) (k14 : PySem.W.keepIn K (.ref f14) = true)
    {oc15 kV15 dc15 pm15 cd15 ct15 : Value} {od15 an15 : Option Addr} {sl15 : Array (Option Value)} {f15 : Addr}
    (a15 : PySem.W.nsIn K mainGlobals "_law_restrict_right" = some (some (.ref f15))) (l15 : K.lookup f15 = some ⟨oc15, od15, .func (PySem.W.fnOf "_law_restrict_right" "_law_restrict_right" (defArgs (topS 15)) (defBody (topS 15)) (defScope (topS 15)) .none kV15 dc15 pm15 an15 cd15 ct15), sl15⟩) (c15 : PySem.W.codeIn K cd15 "_law_restrict_right" = true) (k15 : PySem.W.keepIn K (.ref f15) = true)
    {oc16 kV16 dc16 pm16 cd16 ct16 : Value} {od16 an16 : Option Addr} {sl16 : Array (Option Value)} {f16 : Addr}
    (a16 : PySem.W.nsIn K mainGlobals "law" = some (some (.ref f16))) (l16 : K.lookup f16 = some ⟨oc16, od16, .func (PySem.W.fnOf "law" "law" (defArgs (topS 16)) (defBody (topS 16)) (defScope (topS 16)) .none kV16 dc16 pm16 an16 cd16 ct16), sl16⟩) (c16 : PySem.W.codeIn K cd16 "law" = true) (k16 : PySem.W.keepIn K (.ref f16) = true)
    (z_len : PySem.W.nsIn K mainGlobals "len" = some none)
    (z_int : PySem.W.nsIn K mainGlobals "int" = some none)
    (z_list : PySem.W.nsIn K mainGlobals "list" = some none)
    (z_tuple : PySem.W.nsIn K mainGlobals "tuple" = some none)
    (z_dict : PySem.W.nsIn K mainGlobals "dict" = some none)
    (z_range : PySem.W.nsIn K mainGlobals "range" = some none)
    (z_sorted : PySem.W.nsIn K mainGlobals "sorted" = some none)
    (z_isinstance : PySem.W.nsIn K mainGlobals "isinstance" = some none)
    : ∃ fd : FuncData, (∀ (s : Shared) (v : Value), BindsTo s fd ⟨[v], []⟩ [("_law_script", v)]) ∧ ∀ base : Heap, K.In base → base.Ns mainGlobals mg → FnOk l.prog w K mg base CX0 5 fa fd ["_law_script"] (sp_law K) := by
  have e := hfa.symm.trans (PySem.W.mg_of X G a16)
  cases e
  let A : Nat → Addr := fun i => match i with
    | 1 => f1
    | 3 => f3
    | 4 => f4
    | 5 => f5
    | 7 => f7
    | 8 => f8
    | 9 => f9
    | 10 => f10
    | 11 => f11
    | 12 => f12
    | 13 => f13
    | 14 => f14
    | 15 => f15
    | 16 => fa
    | _ => 0
  let D : Nat → FuncData := fun i => match i with
    | 1 => PySem.W.fnOf "merge_names" "merge_names" (defArgs (topS 1)) (defBody (topS 1)) (defScope (topS 1)) .none kV1 dc1 pm1 an1 cd1 ct1
    | 3 => PySem.W.fnOf "join" "join" (defArgs (topS 3)) (defBody (topS 3)) (defScope (topS 3)) .none kV3 dc3 pm3 an3 cd3 ct3
    | 4 => PySem.W.fnOf "widen" "widen" (defArgs (topS 4)) (defBody (topS 4)) (defScope (topS 4)) .none kV4 dc4 pm4 an4 cd4 ct4
    | 5 => PySem.W.fnOf "restrict" "restrict" (defArgs (topS 5)) (defBody (topS 5)) (defScope (topS 5)) .none kV5 dc5 pm5 an5 cd5 ct5
    | 7 => PySem.W.fnOf "_law_source" "_law_source" (defArgs (topS 7)) (defBody (topS 7)) (defScope (topS 7)) .none kV7 dc7 pm7 an7 cd7 ct7
    | 8 => PySem.W.fnOf "_law_draw" "_law_draw" (defArgs (topS 8)) (defBody (topS 8)) (defScope (topS 8)) .none kV8 dc8 pm8 an8 cd8 ct8
    | 9 => PySem.W.fnOf "_law_pool" "_law_pool" (defArgs (topS 9)) (defBody (topS 9)) (defScope (topS 9)) .none kV9 dc9 pm9 an9 cd9 ct9
    | 10 => PySem.W.fnOf "_law_some" "_law_some" (defArgs (topS 10)) (defBody (topS 10)) (defScope (topS 10)) .none kV10 dc10 pm10 an10 cd10 ct10
    | 11 => PySem.W.fnOf "_law_theory" "_law_theory" (defArgs (topS 11)) (defBody (topS 11)) (defScope (topS 11)) .none kV11 dc11 pm11 an11 cd11 ct11
    | 12 => PySem.W.fnOf "_law_union" "_law_union" (defArgs (topS 12)) (defBody (topS 12)) (defScope (topS 12)) .none kV12 dc12 pm12 an12 cd12 ct12
    | 13 => PySem.W.fnOf "_law_join_right" "_law_join_right" (defArgs (topS 13)) (defBody (topS 13)) (defScope (topS 13)) .none kV13 dc13 pm13 an13 cd13 ct13
    | 14 => PySem.W.fnOf "_law_widen_right" "_law_widen_right" (defArgs (topS 14)) (defBody (topS 14)) (defScope (topS 14)) .none kV14 dc14 pm14 an14 cd14 ct14
    | 15 => PySem.W.fnOf "_law_restrict_right" "_law_restrict_right" (defArgs (topS 15)) (defBody (topS 15)) (defScope (topS 15)) .none kV15 dc15 pm15 an15 cd15 ct15
    | 16 => PySem.W.fnOf "law" "law" (defArgs (topS 16)) (defBody (topS 16)) (defScope (topS 16)) .none kV16 dc16 pm16 an16 cd16 ct16
    | _ => PySem.W.fnOf "law" "law" (defArgs (topS 16)) (defBody (topS 16)) (defScope (topS 16)) .none kV16 dc16 pm16 an16 cd16 ct16
  have T : Txt K mg A D := {
    F_merge_names := fun_mk (st := topS 1) l1 c1 k1
    g_merge_names := PySem.W.mg_of X G a1
    F_join := fun_mk (st := topS 3) l3 c3 k3
    g_join := PySem.W.mg_of X G a3
    b_join := (fun_mk (st := topS 3) l3 c3 k3).binds (ps := ["theories"]) fun _ _ _ _ _ _ us hl => match us, hl with | [_], _ => rfl
    F_widen := fun_mk (st := topS 4) l4 c4 k4
    g_widen := PySem.W.mg_of X G a4
    F_restrict := fun_mk (st := topS 5) l5 c5 k5
    g_restrict := PySem.W.mg_of X G a5
    b_restrict := (fun_mk (st := topS 5) l5 c5 k5).binds (ps := ["assignment", "names"]) fun _ _ _ _ _ _ us hl => match us, hl with | [_, _], _ => rfl
    F__law_source := fun_mk (st := topS 7) l7 c7 k7
    g__law_source := PySem.W.mg_of X G a7
    b__law_source := (fun_mk (st := topS 7) l7 c7 k7).binds (ps := ["_law_script", "_law_k"]) fun _ _ _ _ _ _ us hl => match us, hl with | [_, _], _ => rfl
    F__law_draw := fun_mk (st := topS 8) l8 c8 k8
    g__law_draw := PySem.W.mg_of X G a8
    b__law_draw := (fun_mk (st := topS 8) l8 c8 k8).binds (ps := ["_law_source_here", "_law_limit"]) fun _ _ _ _ _ _ us hl => match us, hl with | [_, _], _ => rfl
    F__law_pool := fun_mk (st := topS 9) l9 c9 k9
    g__law_pool := PySem.W.mg_of X G a9
    b__law_pool := (fun_mk (st := topS 9) l9 c9 k9).binds (ps := []) fun _ _ _ _ _ _ us hl => match us, hl with | [], _ => rfl
    F__law_some := fun_mk (st := topS 10) l10 c10 k10
    g__law_some := PySem.W.mg_of X G a10
    b__law_some := (fun_mk (st := topS 10) l10 c10 k10).binds (ps := ["_law_source_here", "_law_names", "_law_share"]) fun _ _ _ _ _ _ us hl => match us, hl with | [_, _, _], _ => rfl
    F__law_theory := fun_mk (st := topS 11) l11 c11 k11
    g__law_theory := PySem.W.mg_of X G a11
    b__law_theory := (fun_mk (st := topS 11) l11 c11 k11).binds (ps := ["_law_source_here"]) fun _ _ _ _ _ _ us hl => match us, hl with | [_], _ => rfl
    F__law_union := fun_mk (st := topS 12) l12 c12 k12
    g__law_union := PySem.W.mg_of X G a12
    b__law_union := (fun_mk (st := topS 12) l12 c12 k12).binds (ps := ["_law_lists"]) fun _ _ _ _ _ _ us hl => match us, hl with | [_], _ => rfl
    F__law_join_right := fun_mk (st := topS 13) l13 c13 k13
    g__law_join_right := PySem.W.mg_of X G a13
    b__law_join_right := (fun_mk (st := topS 13) l13 c13 k13).binds (ps := ["_law_source_here"]) fun _ _ _ _ _ _ us hl => match us, hl with | [_], _ => rfl
    F__law_widen_right := fun_mk (st := topS 14) l14 c14 k14
    g__law_widen_right := PySem.W.mg_of X G a14
    b__law_widen_right := (fun_mk (st := topS 14) l14 c14 k14).binds (ps := ["_law_source_here"]) fun _ _ _ _ _ _ us hl => match us, hl with | [_], _ => rfl
    F__law_restrict_right := fun_mk (st := topS 15) l15 c15 k15
    g__law_restrict_right := PySem.W.mg_of X G a15
    b__law_restrict_right := (fun_mk (st := topS 15) l15 c15 k15).binds (ps := ["_law_source_here"]) fun _ _ _ _ _ _ us hl => match us, hl with | [_], _ => rfl
    F_law := fun_mk (st := topS 16) l16 c16 k16
    g_law := PySem.W.mg_of X G a16
    b_law := (fun_mk (st := topS 16) l16 c16 k16).binds (ps := ["_law_script"]) fun _ _ _ _ _ _ us hl => match us, hl with | [_], _ => rfl
    z_len := PySem.W.mg_none_of X G z_len
    z_int := PySem.W.mg_none_of X G z_int
    z_list := PySem.W.mg_none_of X G z_list
    z_tuple := PySem.W.mg_none_of X G z_tuple
    z_dict := PySem.W.mg_none_of X G z_dict
    z_range := PySem.W.mg_none_of X G z_range
    z_sorted := PySem.W.mg_none_of X G z_sorted
    z_isinstance := PySem.W.mg_none_of X G z_isinstance
  }
  exact ⟨D 16, fun s v => .of_eq rfl, fun base _ _ => ok_law T⟩
theorem walk {l : PySem.W.OpenLaw} {q : Program} {loose : List Str} {XP : (Str → Option Value) → Heap → Prop} {YP : World → Heap → Prop} {d : DefRec} {K : Params → PySem.W.Frag} (hn : l.most = some 63) (hdf : d.params.defaults = [])
    (hY : ∀ (w : World) (h : Heap), YP w h → (K w.params).In h)
    (F : ∀ (w : World) (mg : Str → Option Value) (fa : Addr) (h : Heap), (K w.params).In h → h.Ns mainGlobals mg → mg d.name = some (.ref fa) →
      ∃ fd : FuncData, (∀ (s : Shared) (u : Value), BindsTo s fd ⟨[u], []⟩ [("_law_script", u)]) ∧ ∀ base : Heap, (K w.params).In base → base.Ns mainGlobals mg → FnOk l.prog w (K w.params) mg base CX0 5 fa fd ["_law_script"] (sp_law (K w.params))) :
    PySem.W.WalkO q loose XP YP l.row.toRowW d [] (fun f vs => PySem.call f vs) :=
  L2.walk_of (n := 63) (k := 5) (x := "_law_script") (CX := fun _ => CX0) (sp := fun w => sp_law (K w.params)) hn (by decide) hdf ⟨rfl, by decide, by decide⟩ hY F (fun _ H a ns hl hO hS => ⟨a, ns, rfl, hS, hl, fun _ => rfl⟩) fun _ _ _ _ _ z => z
end Sl
open PySem PySem.W PyProof.Rows
set_option maxRecDepth 100000 in
set_option maxHeartbeats 0 in
theorem PySem.Challenge.cw_shadowlinks_k01_join_widen_restrict_holds : PySem.Challenge.rw_shadowlinks_k01_join_widen_restrict.Holds := by
  w_on; o_law; k_head; (case hw => w_witness2)
  k_fill
  refine Sl.walk (l := PySem.Challenge.rw_shadowlinks_k01_join_widen_restrict) rfl rfl (fun w h Y => PySem.W.kIn_of Y) ?F
  case F =>
    intro w mg fa h KX G hmg
    refine' Sl.all_mk KX G hmg ?a1 ?l1 ?c1 ?k1 ?a3 ?l3 ?c3 ?k3 ?a4 ?l4 ?c4 ?k4 ?a5 ?l5 ?c5 ?k5 ?a7 ?l7 ?c7 ?k7 ?a8 ?l8 ?c8 ?k8 ?a9 ?l9 ?c9 ?k9 ?a10 ?l10 ?c10 ?k10 ?a11 ?l11 ?c11 ?k11 ?a12 ?l12 ?c12 ?k12 ?a13 ?l13 ?c13 ?k13 ?a14 ?l14 ?c14 ?k14 ?a15 ?l15 ?c15 ?k15 ?a16 ?l16 ?c16 ?k16 ?z_len ?z_int ?z_list ?z_tuple ?z_dict ?z_range ?z_sorted ?z_isinstance
    (case a1 => k_is)
    (case l1 => k_is)
    (case c1 => k_is)
    (case k1 => k_is)
    (case a3 => k_is)
    (case l3 => k_is)
    (case c3 => k_is)
    (case k3 => k_is)
    (case a4 => k_is)
    (case l4 => k_is)
    (case c4 => k_is)
    (case k4 => k_is)
    (case a5 => k_is)
    (case l5 => k_is)
    (case c5 => k_is)
    (case k5 => k_is)
    (case a7 => k_is)
    (case l7 => k_is)
    (case c7 => k_is)
    (case k7 => k_is)
    (case a8 => k_is)
    (case l8 => k_is)
    (case c8 => k_is)
    (case k8 => k_is)
    (case a9 => k_is)
    (case l9 => k_is)
    (case c9 => k_is)
    (case k9 => k_is)
    (case a10 => k_is)
    (case l10 => k_is)
    (case c10 => k_is)
    (case k10 => k_is)
    (case a11 => k_is)
    (case l11 => k_is)
    (case c11 => k_is)
    (case k11 => k_is)
    (case a12 => k_is)
    (case l12 => k_is)
    (case c12 => k_is)
    (case k12 => k_is)
    (case a13 => k_is)
    (case l13 => k_is)
    (case c13 => k_is)
    (case k13 => k_is)
    (case a14 => k_is)
    (case l14 => k_is)
    (case c14 => k_is)
    (case k14 => k_is)
    (case a15 => k_is)
    (case l15 => k_is)
    (case c15 => k_is)
    (case k15 => k_is)
    (case a16 => k_is)
    (case l16 => k_is)
    (case c16 => k_is)
    (case k16 => k_is)
    (case z_len => k_is)
    (case z_int => k_is)
    (case z_list => k_is)
    (case z_tuple => k_is)
    (case z_dict => k_is)
    (case z_range => k_is)
    (case z_sorted => k_is)
    (case z_isinstance => k_is)
