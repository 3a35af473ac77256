import PyProof.Rows.All
import Wide.All
import OpenK.AllK
import Wide.FinOn
import HandS.ForMost
import HandS.Walk
import HandS.IsInst
import HandS.Wide
import HandS.Gcd
import HandS.Star
import HandS.Flow
import HandS.EndBits
import HandS.Conv
import HandS.Deep
import HandS.TupAny
import HandS.Codes
import HandS.Style
import PySem.Challenge.RW_shadowlinks_k30_progressions
set_option Elab.async false
set_option linter.all false
set_option maxRecDepth 100000
set_option maxHeartbeats 4000000
namespace Sl
open PySem PySem.Spec PyProof.Rows L2

/-- a tuple, as it stands or held -/
def isTup : HO → Bool
  | .tup _ => true
  | .frz _ (.tup _) => true
  | _ => false
/-- a new address -/
structure Fr (H : Hp) (p : Addr) : Prop where
  eq : H p = none
/-- all stands but what is at A (tuples stand anyway) -/
def Kp (A : List Addr) (H H' : Hp) : Prop := ∀ a o, H a = some o → (a ∉ A ∨ isTup o = true) → H' a = some o
section
variable {A B : List Addr} {H H' H1 H2 : Hp} {p q a : Addr} {o o' u : HO}
theorem Kp.refl : Kp A H H := fun _ _ h _ => h
theorem Kp.trans (x : Kp A H H1) (y : Kp A H1 H2) : Kp A H H2 := fun a o h k => y a o (x a o h k) k
theorem Kp.sub (x : Kp A H H') (h : ∀ a ∈ A, a ∈ B) : Kp B H H' := fun a o e k => x a o e (k.imp (fun n m => n (h a m)) id)
theorem Kp.nil (x : Kp [] H H') : Kp B H H' := x.sub fun _ h => nomatch h
theorem Kp.of_same (x : Same H H') : Kp A H H' := fun a o h _ => x a o h
theorem Kp.same (x : Kp [] H H') : Same H H' := fun a o h => x a o h (.inl (by simp))
theorem Kp.new (h : H p = none) : Kp A H (upd H p o) := fun a u e _ => by
  rw [upd_ne (ne_of_none e h)]; exact e
theorem Kp.own (h : H p = some o) (t : isTup o = false) (m : p ∈ A) : Kp A H (upd H p o') := fun a u e k => by
  by_cases z : a = p
  · subst z
    rw [h] at e
    cases e
    rcases k with k | k
    · exact absurd m k
    · rw [t] at k; cases k
  · rw [upd_ne z]; exact e
/-- a new one, then changed: nothing that stood is touched -/
theorem Kp.back (h : H p = none) (x : Kp (p :: A) H H') : Kp A H H' := fun a o e k => x a o e (k.imp (fun n => by
  simp only [List.mem_cons, not_or]
  exact ⟨ne_of_none e h, n⟩) id)
/-- a change at what was new -/
theorem Kp.put (x : Kp A H H1) (h : H p = none) : Kp A H (upd H1 p o) := fun a u e k => by
  rw [upd_ne (ne_of_none e h)]; exact x a u e k
theorem Kp.get (x : Kp A H H') (h : H a = some o) (k : a ∉ A ∨ isTup o = true) : H' a = some o := x a o h k
theorem Kp.rd (x : Kp A H H') (h : Rd H a o) (n : a ∉ A) : Rd H' a o := by
  rcases h with h | ⟨z, h⟩
  · exact .inl (x _ _ h (.inl n))
  · exact .inr ⟨z, x _ _ h (.inl n)⟩
theorem Kp.sqT {K : PySem.W.Frag} {xs : List V} (x : Kp A H H') (h : SqT K H a xs) : SqT K H' a xs := by
  rcases h with (h | ⟨z, h⟩) | h
  · exact .inl (.inl (x _ _ h (.inr rfl)))
  · exact .inl (.inr ⟨z, x _ _ h (.inr rfl)⟩)
  · exact .inr h
theorem Kp.sqL {K : PySem.W.Frag} {xs : List V} (x : Kp A H H') (n : a ∉ A) (h : SqL K H a xs) : SqL K H' a xs := by
  rcases h with h | h
  · exact .inl (x.rd h n)
  · exact .inr h
theorem Fr.ne (f : Fr H q) (h : H p = some o) : p ≠ q := ne_of_none h f.eq
theorem ne_kind (h : H p = some o) (h' : H q = some u) (d : o ≠ u) : p ≠ q := ne_of h h' d
end

/-! ### data that stands -/
section
variable (A : List Addr) (K : PySem.W.Frag) (H : Hp)
mutual
inductive Dv : V → PyData → Prop
  | non : Dv .non .none
  | bl (b : Bool) : Dv (.bl b) (.bool b)
  | int (i : Int) : Dv (.int i) (.int i)
  | str (x : Str) : Dv (.str x) (.str x)
  | lst {a : Addr} {xs : List V} {ds : List PyData} : Rd H a (.lst xs) → a ∉ A → DvAll xs ds → Dv (.ref a) (.list ds)
  | tup {a : Addr} {xs : List V} {ds : List PyData} : SqT K H a xs → DvAll xs ds → Dv (.ref a) (.tuple ds)
inductive DvAll : List V → List PyData → Prop
  | nil : DvAll [] []
  | cons {v : V} {vs : List V} {d : PyData} {ds : List PyData} : Dv v d → DvAll vs ds → DvAll (v :: vs) (d :: ds)
end
end
section
variable {A B : List Addr} {K : PySem.W.Frag} {H H' : Hp} {p q a : Addr} {o o' u : HO} {v : V} {d : PyData}
mutual
theorem Dv.kp (k : Kp A H H') : ∀ {v : V} {d : PyData}, Dv A K H v d → Dv A K H' v d
  | _, _, .non => .non
  | _, _, .bl b => .bl b
  | _, _, .int i => .int i
  | _, _, .str x => .str x
  | _, _, .lst h n t => .lst (k.rd h n) n (DvAll.kp k t)
  | _, _, .tup h t => .tup (k.sqT h) (DvAll.kp k t)
theorem DvAll.kp (k : Kp A H H') : ∀ {vs : List V} {ds : List PyData}, DvAll A K H vs ds → DvAll A K H' vs ds
  | _, _, .nil => .nil
  | _, _, .cons h t => .cons (Dv.kp k h) (DvAll.kp k t)
end
mutual
theorem Dv.sub (k : ∀ a ∈ B, a ∈ A) : ∀ {v : V} {d : PyData}, Dv A K H v d → Dv B K H v d
  | _, _, .non => .non
  | _, _, .bl b => .bl b
  | _, _, .int i => .int i
  | _, _, .str x => .str x
  | _, _, .lst h n t => .lst h (fun m => n (k _ m)) (DvAll.sub k t)
  | _, _, .tup h t => .tup h (DvAll.sub k t)
theorem DvAll.sub (k : ∀ a ∈ B, a ∈ A) : ∀ {vs : List V} {ds : List PyData}, DvAll A K H vs ds → DvAll B K H vs ds
  | _, _, .nil => .nil
  | _, _, .cons h t => .cons (Dv.sub k h) (DvAll.sub k t)
end
theorem rd_ne (h : H p = none) (r : Rd H a o) : a ≠ p := by
  rcases r with r | ⟨z, r⟩
  · exact ne_of_none r h
  · exact ne_of_none r h
mutual
/-- a new address is none of the data's -/
theorem Dv.more (h : H p = none) : ∀ {v : V} {d : PyData}, Dv A K H v d → Dv (p :: A) K H v d
  | _, _, .non => .non
  | _, _, .bl b => .bl b
  | _, _, .int i => .int i
  | _, _, .str x => .str x
  | _, _, .lst r n t => .lst r (by simp only [List.mem_cons, not_or]; exact ⟨rd_ne h r, n⟩) (DvAll.more h t)
  | _, _, .tup r t => .tup r (DvAll.more h t)
theorem DvAll.more (h : H p = none) : ∀ {vs : List V} {ds : List PyData}, DvAll A K H vs ds → DvAll (p :: A) K H vs ds
  | _, _, .nil => .nil
  | _, _, .cons r t => .cons (Dv.more h r) (DvAll.more h t)
end
mutual
def flatT : PyData → Bool
  | .list _ => false
  | .dict _ => false
  | .tuple ds => flatTs ds
  | _ => true
def flatTs : List PyData → Bool
  | [] => true
  | d :: ds => flatT d && flatTs ds
end
mutual
theorem Dv.any : ∀ {v : V} {d : PyData}, flatT d = true → Dv A K H v d → Dv B K H v d
  | _, _, _, .non => .non
  | _, _, _, .bl b => .bl b
  | _, _, _, .int i => .int i
  | _, _, _, .str x => .str x
  | _, _, e, .lst r n t => by simp [flatT] at e
  | _, _, e, .tup r t => .tup r (DvAll.any (by simpa [flatT] using e) t)
theorem DvAll.any : ∀ {vs : List V} {ds : List PyData}, flatTs ds = true → DvAll A K H vs ds → DvAll B K H vs ds
  | _, _, _, .nil => .nil
  | _, _, e, .cons r t => by
    simp only [flatTs, Bool.and_eq_true] at e
    exact .cons (Dv.any e.1 r) (DvAll.any e.2 t)
end
theorem flatTs_map {α : Type} {f : α → PyData} (h : ∀ x, flatT (f x) = true) : ∀ xs : List α, flatTs (xs.map f) = true
  | [] => rfl
  | x :: xs => by rw [List.map_cons, flatTs, h x, flatTs_map h xs]; rfl
mutual
theorem Dv.dp : ∀ {v : V} {d : PyData}, Dv A K H v d → Dp K H v d
  | _, _, .non => .non
  | _, _, .bl b => .bl b
  | _, _, .int i => .int i
  | _, _, .str x => .str x
  | _, _, .lst h n t => .lst (.inl h) (DvAll.dp t)
  | _, _, .tup h t => .tup h (DvAll.dp t)
theorem DvAll.dp : ∀ {vs : List V} {ds : List PyData}, DvAll A K H vs ds → DpAll K H vs ds
  | _, _, .nil => .nil
  | _, _, .cons h t => .cons (Dv.dp h) (DvAll.dp t)
end
theorem DvAll.length : ∀ {vs : List V} {ds : List PyData}, DvAll A K H vs ds → vs.length = ds.length
  | _, _, .nil => rfl
  | _, _, .cons _ t => congrArg Nat.succ (DvAll.length t)
theorem DvAll.at : ∀ {vs : List V} {ds : List PyData} {i : Nat} {v : V}, DvAll A K H vs ds → vs[i]? = some v → ∃ d, ds[i]? = some d ∧ Dv A K H v d
  | _, _, i, v, .nil, h => by simp at h
  | _, _, 0, v, .cons h _, e => by cases e; exact ⟨_, rfl, h⟩
  | _, _, i + 1, v, .cons _ t, e => DvAll.at (i := i) t e
theorem DvAll.at' : ∀ {vs : List V} {ds : List PyData} {i : Nat} {d : PyData}, DvAll A K H vs ds → ds[i]? = some d → ∃ v, vs[i]? = some v ∧ Dv A K H v d
  | _, _, i, v, .nil, h => by simp at h
  | _, _, 0, v, .cons h _, e => by cases e; exact ⟨_, rfl, h⟩
  | _, _, i + 1, v, .cons _ t, e => DvAll.at' (i := i) t e
theorem DvAll.app : ∀ {vs ws : List V} {ds es : List PyData}, DvAll A K H vs ds → DvAll A K H ws es → DvAll A K H (vs ++ ws) (ds ++ es)
  | _, _, _, _, .nil, h => h
  | _, _, _, _, .cons h t, r => .cons h (DvAll.app t r)
theorem DvAll.one (h : Dv A K H v d) : DvAll A K H [v] [d] := .cons h .nil
theorem DvAll.snoc {vs : List V} {ds : List PyData} (t : DvAll A K H vs ds) (h : Dv A K H v d) : DvAll A K H (vs ++ [v]) (ds ++ [d]) := t.app (.one h)
theorem DvAll.strs : ∀ {vs : List V} {ss : List Str}, DvAll A K H vs (ss.map .str) → vs = ss.map V.str
  | _, [], .nil => rfl
  | _, s :: ss, .cons h t => by
    cases h
    rw [List.map_cons, DvAll.strs t]
theorem DvAll.ints : ∀ {vs : List V} {ss : List Int}, DvAll A K H vs (ss.map .int) → vs = ss.map V.int
  | _, [], .nil => rfl
  | _, s :: ss, .cons h t => by
    cases h
    rw [List.map_cons, DvAll.ints t]
theorem dv_strs : ∀ (ss : List Str), DvAll A K H (ss.map V.str) (ss.map .str)
  | [] => .nil
  | s :: ss => .cons (.str s) (dv_strs ss)
theorem dv_ints : ∀ (ss : List Int), DvAll A K H (ss.map V.int) (ss.map .int)
  | [] => .nil
  | s :: ss => .cons (.int s) (dv_ints ss)
theorem Dv.tup_inv {ds : List PyData} (h : Dv A K H v (.tuple ds)) : ∃ a xs, v = .ref a ∧ SqT K H a xs ∧ DvAll A K H xs ds := by
  cases h with
  | tup r t => exact ⟨_, _, rfl, r, t⟩
theorem Dv.lst_inv {ds : List PyData} (h : Dv A K H v (.list ds)) : ∃ a xs, v = .ref a ∧ Rd H a (.lst xs) ∧ a ∉ A ∧ DvAll A K H xs ds := by
  cases h with
  | lst r n t => exact ⟨_, _, rfl, r, n, t⟩
theorem Dv.str_inv {s : Str} (h : Dv A K H v (.str s)) : v = .str s := by cases h; rfl
theorem Dv.int_inv {s : Int} (h : Dv A K H v (.int s)) : v = .int s := by cases h; rfl
theorem Dv.bl_inv {s : Bool} (h : Dv A K H v (.bool s)) : v = .bl s := by cases h; rfl
theorem Dv.non_inv (h : Dv A K H v .none) : v = .non := by cases h; rfl
end

theorem sz {n : Nat} (h : n ≤ 100000) : n ≤ sizeLine := Nat.le_trans h (by decide)
theorem szl {n : Nat} (h : n < 100000) : n < sizeLine := Nat.lt_of_lt_of_le h (by decide)
/-! ### the source of draws -/
def Src (H : Hp) (a : Addr) : Prop := ∃ n c : Int, H a = some (.lst [.int n, .int c])
theorem Src.kp {A : List Addr} {H H' : Hp} {a : Addr} (k : Kp A H H') (n : a ∉ A) (h : Src H a) : Src H' a := by
  obtain ⟨x, y, e⟩ := h
  exact ⟨x, y, k _ _ e (.inl n)⟩
end Sl
namespace Sl
open PySem PySem.Spec PyProof.Rows L2
section
variable {X : Cx} {CX : CXT} {k : Nat} {f : Addr} {sp : Sp} {E : XK} {x : Str} {e : Expr} {es : List Expr} {t : TA} {p pos : Pos}
/-- f(e, ..), f of any binding, by a positional promise -/
theorem pe_callF (F : FnR X.prog X.w X.K X.mg X.base CX k f sp) (hr : Room k X.A) (hk : PySem.W.keepIn X.K (.ref f) = true) (hg : Gl X x) (hm : X.mg x = some (.ref f)) (hx : Passes CX X E) (ha : PA X (e :: es) t) (hdb : (x == ("__debug__" : Str)) = false := by decide)
    (he : starEach (e :: es) X.env = (false, eval e X.env) :: starEach es X.env := by rfl) (hpl : (backTo pos (starEach es X.env)).any (·.1) = false := by rfl) :
    PE X (.Call (.Name x p) (e :: es) [] pos) (fun σ H Q => t σ H fun vs H1 => sp vs H1 Q E) := by
  refine ⟨fun pins s σ H Q I h => ?_⟩
  refine wpAny_Call_Name_kw (ld_glob I hg hm ?_ hdb)
  refine PySem.W.callWith_K (h₀ := X.base) I.ok.mod.kin hk (thn (ha.run pos pins s σ H _ I h) fun us s1 ⟨vs, H1, I1, r, q⟩ => ⟨I1.kIn, ?_⟩) he hpl
  exact wpAny_call (run_fnR F hr hx I1 r q)
/-- f(), f of any binding -/
theorem pe_callF0 (F : FnR X.prog X.w X.K X.mg X.base CX k f sp) (hr : Room k X.A) (hg : Gl X x) (hm : X.mg x = some (.ref f)) (hk : PySem.W.keepIn X.K (.ref f) = true) (hx : Passes CX X E)
    (hdb : (x == ("__debug__" : Str)) = false := by decide) : PE X (.Call (.Name x p) [] [] pos) (fun _ H Q => sp [] H Q E) := by
  refine ⟨fun pins s σ H Q I h => ?_⟩
  refine wpAny_Call_Name_kw (ld_glob I hg hm ?_ hdb)
  exact PySem.W.callWith_K0 I.kIn hk (wpAny_call (run_fnR F hr hx I .nil h))
/-- def f(.., *v): n written, the rest a new tuple -/
def star (n : Nat) (sp : Sp) : Sp := fun vs H Q E => ∃ ws rest, vs = ws ++ rest ∧ ws.length = n ∧ rest.length ≤ sizeLine ∧ ∀ p, H p = Option.none → sp (ws ++ [V.ref p]) (upd H p (.tup rest)) Q E
end
end Sl
namespace Sl
open PySem PySem.Spec PyProof.Rows L2
/-! ### two readings of one term -/
section
variable {X : Cx}
theorem pi_or {tg e : Expr} {w1 w2 : TI} (h1 : PI X tg e w1) (h2 : PI X tg e w2) : PI X tg e (fun σ H R => w1 σ H R ∨ w2 σ H R) :=
  ⟨fun pins s σ H R I h => h.elim (h1.run pins s σ H R I) (h2.run pins s σ H R I)⟩
theorem pe_or2 {e : Expr} {t1 t2 : TE} (h1 : PE X e t1) (h2 : PE X e t2) : PE X e (fun σ H Q => t1 σ H Q ∨ t2 σ H Q) :=
  ⟨fun pins s σ H R I h => h.elim (h1.run pins s σ H R I) (h2.run pins s σ H R I)⟩
theorem pt_or2 {e : Expr} {t1 t2 : TT} (h1 : PT X e t1) (h2 : PT X e t2) : PT X e (fun σ H Q => t1 σ H Q ∨ t2 σ H Q) :=
  ⟨fun pins s σ H R I h => h.elim (h1.run pins s σ H R I) (h2.run pins s σ H R I)⟩
theorem op_or2 {f : Value → Value → Sem Value} {r1 r2 : R2} (h1 : OpR X f r1) (h2 : OpR X f r2) : OpR X f (fun x y H Q => r1 x y H Q ∨ r2 x y H Q) :=
  fun pins s σ H x y v u Q I rx ry h => h.elim (h1 pins s σ H x y v u Q I rx ry) (h2 pins s σ H x y v u Q I rx ry)
theorem cr_or2 {f : Value} {r1 r2 : List V → Hp → VK → Prop} (h1 : CallR X f r1) (h2 : CallR X f r2) : CallR X f (fun xs H Q => r1 xs H Q ∨ r2 xs H Q) :=
  fun pins s σ H xs us Q I r h => h.elim (h1 pins s σ H xs us Q I r) (h2 pins s σ H xs us Q I r)
end
theorem nox_ex {X : Cx} {b : List Stmt} {R : TS → Prop} (h : ∃ t, PSs X.nox b t ∧ R t) : ∃ t, PSs X b t ∧ R t := by
  obtain ⟨t, h1, h2⟩ := h
  exact ⟨t, h1.nox, h2⟩
/-! ### texts in ascending order -/
def slt (a b : Str) : Prop := TL.tl a < TL.tl b
instance (a b : Str) : Decidable (slt a b) := inferInstanceAs (Decidable (TL.tl a < TL.tl b))
theorem ltCps_iff : ∀ a b : List Nat, ltCps a b = true ↔ a < b
  | [], [] => by simp [ltCps]
  | [], b :: bs => by simp [ltCps]
  | a :: as, [] => by simp [ltCps]
  | a :: as, b :: bs => by
    have ih := ltCps_iff as bs
    simp only [ltCps, List.cons_lt_cons_iff, Bool.or_eq_true, Bool.and_eq_true, decide_eq_true_eq, beq_iff_eq, ih]
theorem slt_trans {a b c : Str} (h : slt a b) (h' : slt b c) : slt a c := List.lt_trans h h'
theorem slt_irrefl (a : Str) : ¬ slt a a := List.lt_irrefl _
theorem slt_tri (a b : Str) : slt a b ∨ a = b ∨ slt b a := by
  by_cases h : slt a b
  · exact .inl h
  · by_cases h' : slt b a
    · exact .inr (.inr h')
    · exact .inr (.inl (TL.ext_tl (List.le_antisymm (List.not_lt.mp h') (List.not_lt.mp h))))
theorem slt_asymm {a b : Str} (h : slt a b) : ¬ slt b a := fun h' => slt_irrefl _ (slt_trans h h')
/-- strictly ascending -/
def Asc (l : List Str) : Prop := l.Pairwise slt
theorem rising_pw : ∀ (p : Str) (l : List Str), risingS p l = true → (p :: l).Pairwise (fun a b => ¬ slt b a)
  | p, [], _ => List.pairwise_singleton _ _
  | p, x :: r, h => by
    simp only [risingS, Bool.and_eq_true, Bool.not_eq_true'] at h
    have ih := rising_pw x r h.2
    have hpx : ¬ slt x p := fun z => by rw [(ltCps_iff _ _).mpr z] at h; exact Bool.noConfusion h.1
    refine List.pairwise_cons.mpr ⟨fun y hy => ?_, ih⟩
    rcases List.mem_cons.mp hy with e | e
    · subst e; exact hpx
    · intro z
      have hxy := (List.pairwise_cons.mp ih).1 y e
      rcases slt_tri x y with q | q | q
      · exact hpx (slt_trans q z)
      · subst q; exact hpx z
      · exact hxy q
theorem asc_of_sorted {l : List Str} (h : sortedS l = true) (nd : l.Nodup) : Asc l := by
  cases l with
  | nil => exact List.Pairwise.nil
  | cons x r =>
    have hp := rising_pw x r h
    refine List.Pairwise.imp₂ (fun a b h1 h2 => ?_) hp nd
    rcases slt_tri a b with q | q | q
    · exact q
    · exact absurd q h2
    · exact absurd q h1
theorem Asc.nodup {l : List Str} (h : Asc l) : l.Nodup := h.imp fun q e => by subst e; exact slt_irrefl _ q
/-- ascending lists with the same members are one -/
theorem Asc.ext : ∀ {l m : List Str}, Asc l → Asc m → (∀ x, x ∈ l ↔ x ∈ m) → l = m
  | [], [], _, _, _ => rfl
  | [], y :: m, _, _, h => absurd ((h y).mpr (List.mem_cons_self ..)) List.not_mem_nil
  | x :: l, [], _, _, h => absurd ((h x).mp (List.mem_cons_self ..)) List.not_mem_nil
  | x :: l, y :: m, hl, hm, h => by
    have h1 := List.pairwise_cons.mp hl
    have h2 := List.pairwise_cons.mp hm
    have e : x = y := by
      rcases List.mem_cons.mp ((h x).mp (List.mem_cons_self ..)) with e | e
      · exact e
      · rcases List.mem_cons.mp ((h y).mpr (List.mem_cons_self ..)) with e' | e'
        · exact e'.symm
        · exact absurd (slt_trans (h2.1 x e) (h1.1 y e')) (slt_irrefl _)
    subst e
    rw [Asc.ext h1.2 h2.2 fun z => ?_]
    constructor
    · intro hz
      rcases List.mem_cons.mp ((h z).mp (List.mem_cons_of_mem _ hz)) with e | e
      · subst e; exact absurd (h1.1 _ hz) (slt_irrefl _)
      · exact e
    · intro hz
      rcases List.mem_cons.mp ((h z).mpr (List.mem_cons_of_mem _ hz)) with e | e
      · subst e; exact absurd (h2.1 _ hz) (slt_irrefl _)
      · exact e
/-- a list or a tuple -/
def Sq (K : PySem.W.Frag) (H : Hp) (a : Addr) (xs : List V) : Prop := SqL K H a xs ∨ SqT K H a xs
/-- one for each -/
def All2 {α β : Type} (R : α → β → Prop) : List α → List β → Prop
  | [], [] => True
  | x :: xs, y :: ys => R x y ∧ All2 R xs ys
  | _, _ => False
theorem All2.at {α β : Type} {R : α → β → Prop} : ∀ {xs : List α} {ys : List β} {i : Nat} {x : α}, All2 R xs ys → xs[i]? = some x → ∃ y, ys[i]? = some y ∧ R x y
  | [], _, _, _, _, e => by simp at e
  | x :: xs, [], _, _, h, _ => False.elim h
  | x :: xs, y :: ys, 0, _, h, e => by cases e; exact ⟨y, rfl, h.1⟩
  | x :: xs, y :: ys, i + 1, _, h, e => All2.at (i := i) h.2 e
theorem All2.length {α β : Type} {R : α → β → Prop} : ∀ {xs : List α} {ys : List β}, All2 R xs ys → xs.length = ys.length
  | [], [], _ => rfl
  | [], _ :: _, h => False.elim h
  | _ :: _, [], h => False.elim h
  | x :: xs, y :: ys, h => congrArg Nat.succ (All2.length h.2)
theorem All2.imp {α β : Type} {R S : α → β → Prop} (k : ∀ x y, R x y → S x y) : ∀ {xs : List α} {ys : List β}, All2 R xs ys → All2 S xs ys
  | [], [], _ => trivial
  | [], _ :: _, h => False.elim h
  | _ :: _, [], h => False.elim h
  | x :: xs, y :: ys, h => ⟨k _ _ h.1, All2.imp k h.2⟩
theorem All2.snoc {α β : Type} {R : α → β → Prop} : ∀ {xs : List α} {ys : List β} {x : α} {y : β}, All2 R xs ys → R x y → All2 R (xs ++ [x]) (ys ++ [y])
  | [], [], _, _, _, h => ⟨h, trivial⟩
  | [], _ :: _, _, _, h, _ => False.elim h
  | _ :: _, [], _, _, h, _ => False.elim h
  | x :: xs, y :: ys, _, _, h, k => ⟨h.1, All2.snoc h.2 k⟩
end Sl
namespace Sl
open PySem PySem.Spec PyProof.Rows L2
/-! ### tests whose answer is told -/
/-- the answer is b, the heap stands -/
def An (t : TT) (σ : L2.St) (H : Hp) (b : Bool) : Prop := ∀ Q : Bool → Hp → Prop, Q b H → t σ H Q
/-- the value is v, the heap stands -/
def Vl (t : TE) (σ : L2.St) (H : Hp) (v : V) : Prop := ∀ Q : VK, Q v H → t σ H Q
section
variable {σ : L2.St} {H : Hp} {t u c : TT} {a b : Bool} {ta tb : TE} {x y z v : V} {D : Ends} {t1 t2 s2 : TS}
theorem an_and (h1 : An t σ H a) (h2 : a = true → An u σ H b) : An (tAnd t u) σ H (a && b) := fun Q q => by
  refine h1 _ ?_
  cases a with
  | true => exact h2 rfl Q q
  | false => exact q
theorem an_or (h1 : An t σ H a) (h2 : a = false → An u σ H b) : An (tOr t u) σ H (a || b) := fun Q q => by
  refine h1 _ ?_
  cases a with
  | true => exact q
  | false => exact h2 rfl Q q
theorem an_not (h1 : An t σ H a) : An (tNot t) σ H (!a) := fun Q q => h1 _ q
theorem an_cmp {r : R2} (h1 : Vl ta σ H x) (h2 : Vl tb σ H y) (hr : ∀ Q : VK, Q (.bl b) H → r x y H Q) : An (tTest (tOp r ta tb)) σ H b := fun Q q => h1 _ (h2 _ (hr _ ⟨b, rfl, q⟩))
theorem an_val (h1 : Vl ta σ H (.bl b)) : An (tB ta) σ H b := fun Q q => h1 _ ⟨b, rfl, q⟩
theorem an_test (h1 : Vl ta σ H (.bl b)) : An (tTest ta) σ H b := fun Q q => h1 _ ⟨b, rfl, q⟩
theorem vl_var {i : Nat} (h : σ[i]? = some (some v)) : Vl (tVar i) σ H v := fun Q q => ⟨v, h, q⟩
theorem vl_c : Vl (tC v) σ H v := fun Q q => q
theorem vl_op {r : R2} (h1 : Vl ta σ H x) (h2 : Vl tb σ H y) (hr : ∀ Q : VK, Q z H → r x y H Q) : Vl (tOp r ta tb) σ H z := fun Q q => h1 _ (h2 _ (hr _ q))
theorem vl_un {r : V → Hp → VK → Prop} (h1 : Vl ta σ H x) (hr : ∀ Q : VK, Q z H → r x H Q) : Vl (tUn r ta) σ H z := fun Q q => h1 _ (hr _ q)
theorem vl_cb1 {r : List V → Hp → VK → Prop} (h1 : Vl ta σ H x) (hr : ∀ Q : VK, Q z H → r [x] H Q) : Vl (tCB r (tCons ta tNil)) σ H z := fun Q q => h1 _ (hr _ q)
theorem vl_cb2 {r : List V → Hp → VK → Prop} (h1 : Vl ta σ H x) (h2 : Vl tb σ H y) (hr : ∀ Q : VK, Q z H → r [x, y] H Q) : Vl (tCB r (tCons ta (tCons tb tNil))) σ H z := fun Q q => h1 _ (h2 _ (hr _ q))
theorem vl_chain {r r' : R2} {tc : TE} {w : V} (h1 : Vl ta σ H x) (h2 : Vl tb σ H y) (h3 : a = true → Vl tc σ H w) (hr : ∀ Q : VK, Q (.bl a) H → r x y H Q) (hr' : a = true → ∀ Q : VK, Q (.bl b) H → r' y w H Q) : Vl (tChain r r' ta tb tc) σ H (.bl (a && b)) := fun Q q => by
  refine h1 _ (h2 _ (hr _ ⟨a, rfl, ?_⟩))
  cases a with
  | true => exact h3 rfl _ (hr' rfl _ q)
  | false => exact q
theorem vl_not (h1 : Vl ta σ H (.bl a)) : Vl (tNotV ta) σ H (.bl (!a)) := fun Q q => h1 _ ⟨a, rfl, q⟩
theorem vl_andV (h1 : Vl ta σ H (.bl a)) (h2 : a = true → Vl tb σ H (.bl b)) : Vl (tAndV ta tb) σ H (.bl (a && b)) := fun Q q => h1 _ ⟨a, rfl, by
  cases a with
  | true => exact h2 rfl _ q
  | false => exact q⟩
theorem vl_orV (h1 : Vl ta σ H (.bl a)) (h2 : a = false → Vl tb σ H (.bl b)) : Vl (tOrV ta tb) σ H (.bl (a || b)) := fun Q q => h1 _ ⟨a, rfl, by
  cases a with
  | true => exact q
  | false => exact h2 rfl _ q⟩
theorem if_an (h : An c σ H b) (k1 : b = true → t1 D σ H) (k2 : b = false → t2 D σ H) : tIfS c t1 t2 D σ H := by
  refine h _ ?_
  cases b with
  | true => exact k1 rfl
  | false => exact k2 rfl
theorem seq_if (h : An c σ H b) (k1 : b = true → t1 { D with nx := s2 D } σ H) (k2 : b = false → t2 { D with nx := s2 D } σ H) : tSeq (tIfS c t1 t2) s2 D σ H := if_an h k1 k2
theorem seq_if0 (h : An c σ H b) (k1 : b = true → t1 { D with nx := s2 D } σ H) (k2 : b = false → s2 D σ H) : tSeq (tIfS c t1 tNext) s2 D σ H := if_an h k1 k2
theorem seq_ifK0 (h : t σ H fun b H' => if b = true then t1 { D with nx := s2 D } σ H' else s2 D σ H') : tSeq (tIfS t t1 tNext) s2 D σ H := h
theorem seq_set {i : Nat} (h : Vl ta σ H v) (k : s2 D (σ.set i (some v)) H) : tSeq (tAsg ta (gName i)) s2 D σ H := h _ k
theorem seq_setK {i : Nat} (h : ta σ H fun v H' => s2 D (σ.set i (some v)) H') : tSeq (tAsg ta (gName i)) s2 D σ H := h
theorem setK {i : Nat} (h : ta σ H fun v H' => D.nx (σ.set i (some v)) H') : tAsg ta (gName i) D σ H := h
theorem seq_dropK (h : ta σ H fun _ H' => s2 D σ H') : tSeq (tDrop ta) s2 D σ H := h
theorem dropK' (h : ta σ H fun _ H' => D.nx σ H') : tDrop ta D σ H := h
theorem retK (h : ta σ H D.rt) : tRet ta D σ H := h
theorem if_anK (h : t σ H fun b H' => if b = true then t1 D σ H' else t2 D σ H') : tIfS t t1 t2 D σ H := h
theorem seq_ifK (h : t σ H fun b H' => if b = true then t1 { D with nx := s2 D } σ H' else t2 { D with nx := s2 D } σ H') : tSeq (tIfS t t1 t2) s2 D σ H := h
theorem seq_forK {wi : TI} {g : TG} {tb : TS} (h : tFor wi g tb { D with nx := s2 D } σ H) : tSeq (tFor wi g tb) s2 D σ H := h
theorem seq_whileK {c : TT} {tb : TS} (h : tWhile c tb { D with nx := s2 D } σ H) : tSeq (tWhile c tb) s2 D σ H := h
theorem seq_parK {i j : Nat} {ta : TA} (h : ta σ H fun vs H1 => ∃ v w, vs = [v, w] ∧ s2 D ((σ.set i (some v)).set j (some w)) H1) : tSeq (tPar i j ta) s2 D σ H := h
theorem parK {i j : Nat} {ta : TA} (h : ta σ H fun vs H1 => ∃ v w, vs = [v, w] ∧ D.nx ((σ.set i (some v)).set j (some w)) H1) : tPar i j ta D σ H := h
theorem gnK {i : Nat} {v : V} {Q : L2.St → Hp → Prop} (h : Q (σ.set i (some v)) H) : gName i v σ H Q := h
theorem yesK {Q : Bool → Hp → Prop} (h : Q true H) : tYes σ H Q := h
theorem nextK (h : D.nx σ H) : tNext D σ H := h
theorem ret_vl (h : Vl ta σ H v) (k : D.rt v H) : tRet ta D σ H := h _ k
theorem An.to (h : An t σ H a) (e : a = b) : An t σ H b := e ▸ h
theorem Vl.to (h : Vl ta σ H x) (e : x = y) : Vl ta σ H y := e ▸ h
end
/-- two ways that meet -/
theorem cutK {t u : TS} {D : Ends} {σ : L2.St} {H : Hp} (Mid : L2.St → Hp → Prop) (h1 : t { D with nx := Mid } σ H) (h2 : ∀ σ' H', Mid σ' H' → u D σ' H') : C8.tCut t u D σ H := ⟨Mid, h1, h2⟩
theorem an_use {c : TT} {σ : L2.St} {H : Hp} {b : Bool} {Q : Bool → Hp → Prop} (h : An c σ H b) (q : Q b H) : c σ H Q := h Q q
/-- a for and what stands behind it -/
theorem for_seq {J : It} {n : Nat} {G : Hp → Prop} {Y : Nat → Hp → V → Hp → Prop} (w : Walk J n G Y) {g : TG} {tb s2 : TS} {D : Ends} {σ : L2.St} {H : Hp} (Pv : Nat → L2.St → Hp → Prop) (h0 : Pv 0 σ H) (hG : ∀ i σ H, i ≤ n → Pv i σ H → G H)
    (hs : ∀ i x σ H H', i < n → Pv i σ H → Y i H x H' → g x σ H' fun σ2 H2 => tb { D with nx := Pv (i + 1), ct := Pv (i + 1), bk := s2 D } σ2 H2) (hd : ∀ σ H, Pv n σ H → s2 D σ H) :
    ∃ W : Nat → Nat → L2.St → Hp → Prop, (∃ m, W 0 m σ H) ∧ ∀ i m σ H, W i m σ H →
      (J.stop i H ∧ (Ends.mk (s2 D) D.rt D.bk D.ct).nx σ H) ∨ (J.go i H ∧ ∃ N : L2.St → Hp → Prop, (∀ σ' H', N σ' H' → ∃ m', m' < m ∧ W (i + 1) m' σ' H') ∧ ∀ x H', J.yld i H x H' → g x σ H' fun σ2 H2 => tb { (Ends.mk (s2 D) D.rt D.bk D.ct) with nx := N, ct := N, bk := (Ends.mk (s2 D) D.rt D.bk D.ct).nx } σ2 H2) :=
  for_it (D := Ends.mk (s2 D) D.rt D.bk D.ct) w Pv h0 hG hs hd
/-- one sign of a text -/
theorem sign_at {z : Str} {r : Int} (h0 : 0 ≤ r) (h1 : r < z.length) : ∃ c, atI z.cps.toList r = some c ∧ c ∈ TL.tl z := by
  obtain ⟨n, rfl⟩ := Int.eq_ofNat_of_zero_le h0
  have h : n < z.cps.toList.length := by
    have e : z.length = z.cps.toList.length := TL.len_tl z
    omega
  exact ⟨z.cps.toList[n], atI_nat (by simp), List.getElem_mem h⟩
end Sl
namespace Sl
open PySem PySem.Spec PyProof.Rows L2
/-! ### data of written depth -/
/-- all signs are signs -/
def okS (s : Str) : Prop := ∀ c ∈ TL.tl s, c < 1114112
theorem okS.ok {s : Str} (h : okS s) : PyData.canLay0 (.str s) = true := by
  show PyData.strOk s = true
  unfold PyData.strOk
  rw [Array.all_eq_true']
  intro c hc
  simpa using h c (Array.mem_toList_iff.mpr hc)
theorem lay_map {α : Type} {f : α → PyData} : ∀ {xs : List α}, (∀ x ∈ xs, (f x).canLay0 = true) → PyData.canLayAll0 (xs.map f) = true
  | [], _ => rfl
  | x :: xs, h => by
    rw [List.map_cons, PyData.canLayAll0, h x (List.mem_cons_self ..), lay_map fun y hy => h y (List.mem_cons_of_mem _ hy)]; rfl
theorem depth_map {α : Type} {f : α → PyData} {k : Nat} : ∀ {xs : List α}, (∀ x ∈ xs, (f x).depth ≤ k) → PyData.depthAll (xs.map f) ≤ k
  | [], _ => Nat.zero_le _
  | x :: xs, h => by
    rw [List.map_cons, PyData.depthAll]
    have h1 := h x (List.mem_cons_self ..)
    have h2 := depth_map (k := k) (xs := xs) fun y hy => h y (List.mem_cons_of_mem _ hy)
    omega
theorem shaped_of {d : PyData} (h : d.canLay0 = true) (h' : d.depth ≤ 64) : SeqAt.shaped d = true := by
  unfold SeqAt.shaped
  rw [h, decide_eq_true h']; rfl
theorem inV_strs {s : Str} : ∀ {ys : List Str}, inV (.str s) (ys.map V.str) = decide (s ∈ ys)
  | [] => rfl
  | y :: ys => by
    have ih := inV_strs (s := s) (ys := ys)
    unfold inV at ih ⊢
    rw [List.map_cons, List.any_cons, ih]
    show (y == s || decide (s ∈ ys)) = decide (s ∈ y :: ys)
    by_cases e : s = y
    · subst e; simp
    · have : (y == s) = false := by simp [Ne.symm e]
      rw [this]; simp [e]
theorem flat_strs (ys : List Str) : (ys.map V.str).all flatV = true := by
  rw [List.all_eq_true]
  intro v hv
  obtain ⟨s, _, rfl⟩ := List.mem_map.mp hv
  rfl
end Sl
namespace Sl
open PySem PySem.Spec PyProof.Rows L2
/-! ### rules by K alone (they go into a comprehension's block) -/
def rListOf (K : PySem.W.Frag) : List V → Hp → VK → Prop := fun xs H Q => ∃ p ys, xs = [.ref p] ∧ (SqL K H p ys ∨ SqT K H p ys) ∧ ∀ l, H l = none → Q (.ref l) (upd H l (.lst ys))
def rTupleOf (K : PySem.W.Frag) : List V → Hp → VK → Prop := fun xs H Q => ∃ p ys, xs = [.ref p] ∧ ((SqL K H p ys ∧ ∀ l, H l = none → Q (.ref l) (upd H l (.tup ys))) ∨ (SqT K H p ys ∧ Q (.ref p) H))
def rLenK (K : PySem.W.Frag) : List V → Hp → VK → Prop := fun xs H Q => ∃ x n, xs = [x] ∧ LenV K x H n ∧ Q (.int (n : Nat)) H
section
variable {X : Cx} {K : PySem.W.Frag}
theorem cK_list (e : X.K = K) : CallR X (.type "list") (rListOf K) := by subst e; exact call_list_of
theorem cK_tuple (e : X.K = K) : CallR X (.type "tuple") (rTupleOf K) := by subst e; exact call_tuple_of
theorem cK_len (e : X.K = K) : CallR X (.builtin "len") (rLenK K) := by subst e; exact call_len
theorem cK_isi (e : X.K = K) : CallR X (.builtin "isinstance") (rIsi K) := by subst e; exact call_isi
theorem cK_isiT (e : X.K = K) : CallR X (.builtin "isinstance") (rIsiT K) := by subst e; exact call_isiT
theorem cK_sortedS (e : X.K = K) : CallR X (.builtin "sorted") (rSortedS K) := by subst e; exact cr_sortedS
theorem xK_list (e : X.K = K) : IxR X (rIxL K) := by subst e; exact ix_list
theorem xK_tup (e : X.K = K) : IxR X (rIxT K) := by subst e; exact ix_tup
theorem xK_seq (e : X.K = K) : IxR X (rIx K) := by subst e; exact ix_seq
theorem oK_in (e : X.K = K) : OpR X (compareOp .In) (rIn K false) := by subst e; exact op_in_seq
theorem oK_nin (e : X.K = K) : OpR X (compareOp .NotIn) (rIn K true) := by subst e; exact op_notIn_seq
theorem oK_eqD (e : X.K = K) (hu : X.A.units + 64 < cLine) : OpR X (compareOp .Eq) (rEqD K) := by subst e; exact op_eqD hu
theorem oK_neD (e : X.K = K) (hu : X.A.units + 64 < cLine) : OpR X (compareOp .NotEq) (rNeD K) := by subst e; exact op_neD hu
theorem iK_list {tg l : Expr} {tl : TE} (e : X.K = K) (hl : PE X l tl) : PI X tg l (iList K tl) := by subst e; exact pi_list hl
theorem iK_tup {tg l : Expr} {tl : TE} (e : X.K = K) (hl : PE X l tl) : PI X tg l (iTup K tl) := by subst e; exact pi_tup hl
end
end Sl
namespace Sl
open PySem PySem.Spec PyProof.Rows L2
local macro_rules | `(tactic| walk_at "nin") => `(tactic| first | assumption | exact List.not_mem_nil | (simp only [List.mem_cons, List.not_mem_nil, not_or, or_false, not_false_eq_true, and_true]; first | assumption | walk_at "ne" | (refine ⟨?_, ?_⟩ <;> walk_at "ne") | (refine ⟨?_, ?_, ?_⟩ <;> walk_at "ne")))
local macro_rules | `(tactic| walk_at "ne") => `(tactic| first | assumption | exact Ne.symm (by assumption) | (refine Fr.ne ?_ ?_ <;> first | assumption | walk_at "hp") | (refine Ne.symm (Fr.ne ?_ ?_) <;> first | assumption | walk_at "hp"))
local macro_rules | `(tactic| walk_at "hp") => `(tactic| first
  | assumption
  | exact upd_same
  | (refine Eq.trans (upd_ne ?_) ?_ <;> first | walk_at "hp" | walk_at "ne")
  | (refine Kp.get (by assumption) ?_ ?_ <;> first | walk_at "hp" | exact .inr rfl | exact .inl List.not_mem_nil | (refine .inl ?_; walk_at "nin")))
local macro_rules | `(tactic| walk_at "sl") => `(tactic| first | assumption | (refine .inl (.inl ?_); walk_at "hp") | (refine Kp.sqL (by assumption) ?_ ?_ <;> first | walk_at "sl" | walk_at "nin") | (refine Kp.sqL (Kp.new (by assumption)) (A := []) List.not_mem_nil ?_; walk_at "sl"))
local macro_rules | `(tactic| walk_at "rd") => `(tactic| first
  | refine ⟨_, rfl, ?_⟩
  | refine ⟨_, _, rfl, rfl, ?_⟩
  | refine ⟨_, _, rfl, rfl, (by first | decide | omega), ?_⟩
  | refine .inl ⟨_, rfl, ?_⟩
  | refine ⟨rfl, ?_⟩
  | refine ⟨_, _, _, _, rfl, rfl, (by walk_at "sl"), rfl, ?_⟩)
local macro_rules | `(tactic| walk_at "rds") => `(tactic| repeat (walk_at "rd"))
local macro_rules | `(tactic| walk_at "vl") => `(tactic| first
  | exact vl_c
  | exact vl_var rfl
  | (refine' vl_op ?h1 ?h2 ?h3; (case h1 => walk_at "vl"); (case h2 => walk_at "vl"); (case h3 => walk_at "rl"))
  | (refine' vl_un ?h1 ?h3; (case h1 => walk_at "vl"); (case h3 => walk_at "rl"))
  | (refine' vl_cb1 ?h1 ?h3; (case h1 => walk_at "vl"); (case h3 => walk_at "rl"))
  | (refine' vl_cb2 ?h1 ?h2 ?h3; (case h1 => walk_at "vl"); (case h2 => walk_at "vl"); (case h3 => walk_at "rl"))
  | (refine' vl_not ?h1; (case h1 => walk_at "vl"))
  | (refine' vl_andV ?h1 ?h2; (case h1 => walk_at "vl"); (case h2 => intro _; walk_at "vl"))
  | (refine' vl_orV ?h1 ?h2; (case h1 => walk_at "vl"); (case h2 => intro _; walk_at "vl"))
  | (refine' vl_chain ?h1 ?h2 ?h3 ?h4 ?h5; (case h1 => walk_at "vl"); (case h2 => walk_at "vl"); (case h4 => walk_at "rl"); (case h3 => intro _; walk_at "vl"); (case h5 => intro _; walk_at "rl")))
local macro_rules | `(tactic| walk_at "rl") => `(tactic| (intro Q' q'; first
  | exact ⟨_, _, rfl, rfl, q'⟩
  | exact ⟨rfl, q'⟩
  | exact ⟨_, rfl, q'⟩
  | exact .inl ⟨_, rfl, q'⟩
  | exact ⟨_, _, _, _, rfl, rfl, (by assumption), rfl, q'⟩
  | exact ⟨_, _, rfl, .inr ⟨_, by assumption, rfl⟩, q'⟩
  | exact ⟨_, _, rfl, .inl ⟨_, by assumption, rfl⟩, q'⟩
  | exact ⟨_, rfl, (by first | assumption | exact sz (by assumption) | exact sz (by omega)), q'⟩
  | exact ⟨_, _, rfl, rfl, (by first | assumption | exact ⟨by omega, by omega⟩ | (show (0 : Int) < _; omega) | exact .inl ⟨by omega, by omega⟩ | exact .inr ⟨by omega, by omega⟩), q'⟩))
local macro_rules | `(tactic| walk_at "an") => `(tactic| first
  | (refine' an_and ?h1 ?h2; (case h1 => walk_at "an"); (case h2 => intro _; walk_at "an"))
  | (refine' an_or ?h1 ?h2; (case h1 => walk_at "an"); (case h2 => intro _; walk_at "an"))
  | (refine' an_not ?h1; (case h1 => walk_at "an"))
  | (refine' an_cmp ?h1 ?h2 ?h3; (case h1 => walk_at "vl"); (case h2 => walk_at "vl"); (case h3 => walk_at "rl"))
  | (refine' an_val ?h1; (case h1 => walk_at "vl"))
  | (refine' an_test ?h1; (case h1 => walk_at "vl")))
local macro_rules | `(tactic| walk_at "if") => `(tactic| ((try refine gnK ?_); (first | refine' seq_if0 ?h ?k1 ?k2 | refine' seq_if ?h ?k1 ?k2 | refine' if_an ?h ?k1 ?k2); (case h => walk_at "an")))
local macro_rules | `(tactic| walk_at "st") => `(tactic| ((try refine gnK ?_); first | refine seq_setK ?_ | refine setK ?_ | refine seq_dropK ?_ | refine dropK' ?_ | refine seq_ifK0 ?_ | refine seq_ifK ?_ | refine if_anK ?_ | refine retK ?_ | refine nextK ?_))
local macro_rules | `(tactic| walk_at "set") => `(tactic| (refine' seq_set ?h ?k; (case h => walk_at "vl")))
theorem asB {Q : VK} {b b' : Bool} {H : Hp} (q : Q (.bl b) H) (e : b = b') : Q (.bl b') H := e ▸ q
/-! ### plain numbers -/
/-- Bezout -/
theorem bez (a b : Nat) : ∃ x y : Int, (Nat.gcd a b : Int) = a * x + b * y := by
  induction a, b using Nat.gcd.induction with
  | H0 n => exact ⟨0, 1, by simp⟩
  | H1 m n hm ih =>
    obtain ⟨x, y, e⟩ := ih
    rw [Nat.gcd_rec]
    have h : ((n % m : Nat) : Int) = (n : Int) - m * (n / m : Nat) := by
      have := Nat.div_add_mod n m
      have h2 : ((m * (n / m) + n % m : Nat) : Int) = (n : Int) := by rw [this]
      simp only [Int.natCast_add, Int.natCast_mul] at h2
      omega
    refine ⟨y - (n / m : Nat) * x, x, ?_⟩
    rw [e, h]
    simp only [Int.mul_sub, Int.sub_mul]
    rw [← Int.mul_assoc]
    omega
theorem gcd_dvdI {a b : Nat} {d : Int} (ha : (a : Int) ∣ d) : ((Nat.gcd a b : Nat) : Int) ∣ d := Int.dvd_trans (Int.natCast_dvd_natCast.mpr (Nat.gcd_dvd_left a b)) ha
/-- what two parts say of d, their least multiple says -/
theorem gcd_lcm_dvd {a b s : Nat} {d : Int} (h1 : ((Nat.gcd a s : Nat) : Int) ∣ d) (h2 : ((Nat.gcd b s : Nat) : Int) ∣ d) : ((Nat.gcd (Nat.lcm a b) s : Nat) : Int) ∣ d := by
  rcases Nat.eq_zero_or_pos a with e | ha
  · subst e
    rw [Nat.lcm_zero_left]; exact h1
  rcases Nat.eq_zero_or_pos b with e | hb
  · subst e
    rw [Nat.lcm_zero_right]; exact h2
  have hc : 0 < Nat.gcd a b := Nat.gcd_pos_of_pos_left b ha
  obtain ⟨a1, ea⟩ := Nat.gcd_dvd_left a b
  obtain ⟨b1, eb⟩ := Nat.gcd_dvd_right a b
  obtain ⟨u, v, euv⟩ := bez a b
  have el : Nat.lcm a b = Nat.gcd a b * a1 * b1 := by
    have h := Nat.gcd_mul_lcm a b
    have : Nat.gcd a b * Nat.lcm a b = Nat.gcd a b * (Nat.gcd a b * a1 * b1) := by
      rw [h]
      calc a * b = (Nat.gcd a b * a1) * (Nat.gcd a b * b1) := by rw [← ea, ← eb]
        _ = Nat.gcd a b * (Nat.gcd a b * a1 * b1) := by simp only [Nat.mul_assoc, Nat.mul_left_comm, Nat.mul_comm]
    exact Nat.eq_of_mul_eq_mul_left hc this
  have one : (1 : Int) = a1 * u + b1 * v := by
    have hc' : ((Nat.gcd a b : Nat) : Int) ≠ 0 := by omega
    have e1 : (a : Int) = (Nat.gcd a b : Nat) * (a1 : Int) := by rw [← Int.natCast_mul, ← ea]
    have e2 : (b : Int) = (Nat.gcd a b : Nat) * (b1 : Int) := by rw [← Int.natCast_mul, ← eb]
    refine Int.eq_of_mul_eq_mul_left hc' ?_
    calc ((Nat.gcd a b : Nat) : Int) * 1 = (Nat.gcd a b : Nat) := Int.mul_one _
      _ = a * u + b * v := euv
      _ = ((Nat.gcd a b : Nat) * (a1 : Int)) * u + ((Nat.gcd a b : Nat) * (b1 : Int)) * v := by rw [← e1, ← e2]
      _ = (Nat.gcd a b : Nat) * (a1 * u + b1 * v) := by rw [Int.mul_add, Int.mul_assoc, Int.mul_assoc]
  generalize hg : Nat.gcd (Nat.lcm a b) s = g
  have gs : g ∣ s := by rw [← hg]; exact Nat.gcd_dvd_right _ _
  have gl : g ∣ Nat.lcm a b := by rw [← hg]; exact Nat.gcd_dvd_left _ _
  -- g | a1 d
  have key : ∀ (x y : Nat), Nat.gcd x g ∣ Nat.gcd x s → ((Nat.gcd x s : Nat) : Int) ∣ d → g ∣ y * x → (g : Int) ∣ (y : Int) * d := fun x y hx hd hy => by
    have h : ((Nat.gcd x g : Nat) : Int) ∣ d := Int.dvd_trans (Int.natCast_dvd_natCast.mpr hx) hd
    obtain ⟨t, et⟩ := h
    obtain ⟨p, q, epq⟩ := bez x g
    have : (y : Int) * d = ((y * x : Nat) : Int) * (p * t) + (g : Int) * (q * t * y) := by
      rw [et, epq, Int.natCast_mul]
      simp only [Int.mul_add, Int.add_mul]
      congr 1
      · simp only [Int.mul_assoc, Int.mul_left_comm, Int.mul_comm]
      · simp only [Int.mul_assoc, Int.mul_left_comm, Int.mul_comm]
    rw [this]
    exact Int.dvd_add (Int.dvd_trans (Int.natCast_dvd_natCast.mpr hy) (Int.dvd_mul_right _ _)) (Int.dvd_mul_right _ _)
  have sub : ∀ x, Nat.gcd x g ∣ Nat.gcd x s := fun x => Nat.dvd_gcd (Nat.gcd_dvd_left _ _) (Nat.dvd_trans (Nat.gcd_dvd_right _ _) gs)
  have k1 : (g : Int) ∣ (a1 : Int) * d := key b a1 (sub b) h2 (by
    have : a1 * b = Nat.lcm a b := by
      rw [el]
      calc a1 * b = a1 * (Nat.gcd a b * b1) := by rw [← eb]
        _ = Nat.gcd a b * a1 * b1 := by simp only [Nat.mul_assoc, Nat.mul_left_comm, Nat.mul_comm]
    rw [this]; exact gl)
  have k2 : (g : Int) ∣ (b1 : Int) * d := key a b1 (sub a) h1 (by
    have : b1 * a = Nat.lcm a b := by
      rw [el]
      calc b1 * a = b1 * (Nat.gcd a b * a1) := by rw [← ea]
        _ = Nat.gcd a b * a1 * b1 := by simp only [Nat.mul_assoc, Nat.mul_left_comm, Nat.mul_comm]
    rw [this]; exact gl)
  have : d = u * ((a1 : Int) * d) + v * ((b1 : Int) * d) := by
    calc d = 1 * d := (Int.one_mul d).symm
      _ = (a1 * u + b1 * v) * d := by rw [← one]
      _ = u * ((a1 : Int) * d) + v * ((b1 : Int) * d) := by
        rw [Int.add_mul]
        congr 1
        · simp only [Int.mul_assoc, Int.mul_left_comm, Int.mul_comm]
        · simp only [Int.mul_assoc, Int.mul_left_comm, Int.mul_comm]
  rw [this]
  exact Int.dvd_add (Int.dvd_trans k1 (Int.dvd_mul_left _ _)) (Int.dvd_trans k2 (Int.dvd_mul_left _ _))
theorem gcd_fold {s : Nat} {d : Int} : ∀ {ps : List (Nat × Int)} {M : Nat}, ((Nat.gcd M s : Nat) : Int) ∣ d → (∀ p ∈ ps, ((Nat.gcd p.1 s : Nat) : Int) ∣ d) → ((Nat.gcd (ps.foldl (fun M p => Nat.lcm M p.1) M) s : Nat) : Int) ∣ d
  | [], _, h, _ => h
  | p :: ps, M, h, hp => gcd_fold (ps := ps) (M := Nat.lcm M p.1) (gcd_lcm_dvd h (hp p (List.mem_cons_self ..))) fun q hq => hp q (List.mem_cons_of_mem _ hq)
def lcmL (ps : List (Nat × Int)) : Nat := ps.foldl (fun M p => Nat.lcm M p.1) 1
theorem lcmL_snoc {ps : List (Nat × Int)} {p : Nat × Int} : lcmL (ps ++ [p]) = Nat.lcm (lcmL ps) p.1 := by
  unfold lcmL; rw [List.foldl_append]; rfl
theorem fold_dvd : ∀ {ps : List (Nat × Int)} {M : Nat}, M ∣ ps.foldl (fun M p => Nat.lcm M p.1) M ∧ ∀ p ∈ ps, p.1 ∣ ps.foldl (fun M p => Nat.lcm M p.1) M
  | [], M => ⟨Nat.dvd_refl _, fun p h => nomatch h⟩
  | q :: ps, M => by
    obtain ⟨h1, h2⟩ := fold_dvd (ps := ps) (M := Nat.lcm M q.1)
    refine ⟨Nat.dvd_trans (Nat.dvd_lcm_left _ _) h1, fun p hp => ?_⟩
    rcases List.mem_cons.mp hp with e | e
    · subst e; exact Nat.dvd_trans (Nat.dvd_lcm_right _ _) h1
    · exact h2 p e
theorem dvd_lcmL {ps : List (Nat × Int)} {p : Nat × Int} (h : p ∈ ps) : p.1 ∣ lcmL ps := fold_dvd.2 p h
/-- what the next one asks, if all agree -/
theorem meets {ps : List (Nat × Int)} {s : Nat} {o x : Int} (hx : ∀ p ∈ ps, (p.1 : Int) ∣ x - p.2) (ha : ∀ p ∈ ps, ((Nat.gcd p.1 s : Nat) : Int) ∣ p.2 - o) : ((Nat.gcd (lcmL ps) s : Nat) : Int) ∣ o - x := by
  unfold lcmL
  refine gcd_fold (by rw [Nat.gcd_one_left]; exact ⟨o - x, by simp⟩) fun p hp => ?_
  have h1 := gcd_dvdI (b := s) (hx p hp)
  have h2 := ha p hp
  have : o - x = -((x - p.2) + (p.2 - o)) := by omega
  rw [this]
  exact Int.dvd_neg.mpr (Int.dvd_add h1 h2)
/-! ### one congruence solved -/
theorem solve_zero {c r : Int} (h : c ∣ r) : c * (r / c) - r = 0 := by
  rw [Int.mul_ediv_cancel' h]; omega
theorem solve_mod {c r i : Int} {m g : Nat} (hg : 0 < g) (hc : (g : Int) ∣ c) (hr : (g : Int) ∣ r) (hm : g ∣ m) (hi : ((m / g : Nat) : Int) ∣ c / g * i - 1) : (m : Int) ∣ c * (r / g * i % ((m / g : Nat) : Int)) - r := by
  obtain ⟨c', rfl⟩ := hc
  obtain ⟨r', rfl⟩ := hr
  obtain ⟨n, rfl⟩ := hm
  have g0 : (g : Int) ≠ 0 := by omega
  rw [Int.mul_ediv_cancel_left _ g0] at hi ⊢
  rw [Nat.mul_div_cancel_left _ hg] at hi ⊢
  obtain ⟨t, ht⟩ := hi
  have hd := Int.emod_add_mul_ediv (r' * i) (n : Int)
  generalize (r' * i) % (n : Int) = R at *
  generalize (r' * i) / (n : Int) = D at *
  refine ⟨r' * t - c' * D, ?_⟩
  rw [Int.natCast_mul]
  have e1 : c' * i = n * t + 1 := by omega
  have : (g : Int) * c' * R - g * r' = g * (c' * R - r') := by rw [Int.mul_sub, Int.mul_assoc]
  rw [this, Int.mul_assoc]
  congr 1
  have e2 : R = r' * i - n * D := by omega
  rw [e2]
  grind
theorem gcd_mod (a b : Int) : Nat.gcd b.natAbs (a % b).natAbs = Nat.gcd a.natAbs b.natAbs := by
  have e := Int.emod_add_mul_ediv a b
  have l : ∀ (n : Nat) (z : Int), (n : Int) ∣ z ↔ n ∣ z.natAbs := fun n z => Int.ofNat_dvd_left
  apply Nat.dvd_antisymm
  · refine Nat.dvd_gcd ((l _ _).mp ?_) (Nat.gcd_dvd_left _ _)
    have h1 := (l _ b).mpr (Nat.gcd_dvd_left b.natAbs (a % b).natAbs)
    have h2 := (l _ (a % b)).mpr (Nat.gcd_dvd_right b.natAbs (a % b).natAbs)
    have : ∀ g : Int, g ∣ b → g ∣ a % b → g ∣ a := fun g x y => by
      have := Int.dvd_add y (Int.dvd_trans x (Int.dvd_mul_right b (a / b)))
      rw [e] at this; exact this
    exact this _ h1 h2
  · refine Nat.dvd_gcd (Nat.gcd_dvd_right _ _) ((l _ _).mp ?_)
    have h1 := (l _ a).mpr (Nat.gcd_dvd_left a.natAbs b.natAbs)
    have h2 := (l _ b).mpr (Nat.gcd_dvd_right a.natAbs b.natAbs)
    have : a % b = a - b * (a / b) := by omega
    rw [this]
    exact Int.dvd_sub h1 (Int.dvd_trans h2 (Int.dvd_mul_right _ _))
/-! ### Euclid with coefficients -/
structure Euc (number : Int) (s : Nat) (r0 x0 r1 x1 : Int) : Prop where
  r1n : 0 ≤ r1
  d0 : (s : Int) ∣ number * x0 - r0
  d1 : (s : Int) ∣ number * x1 - r1
  g : Nat.gcd r0.natAbs r1.natAbs = 1
  sg : ∃ e y0 y1 : Int, (e = 1 ∨ e = -1) ∧ x0 = e * y0 ∧ x1 = -(e * y1) ∧ 0 ≤ y0 ∧ 0 ≤ y1 ∧ y0 ≤ s ∧ y1 ≤ s ∧ (0 ≤ r0 ∨ y1 = 0) ∧ r0 * y1 + r1 * y0 = s
theorem Euc.start {number : Int} {s : Nat} (hs : 0 < s) (hg : Nat.gcd number.natAbs s = 1) : Euc number s number 1 s 0 := by
  refine ⟨by omega, ⟨0, by simp⟩, ⟨-1, by simp⟩, by simpa using hg, 1, 1, 0, .inl rfl, by simp, by simp, by omega, by omega, by omega, by omega, .inr rfl, by simp⟩
theorem Euc.step {number : Int} {s : Nat} {r0 x0 r1 x1 : Int} (h : Euc number s r0 x0 r1 x1) (hr : r1 ≠ 0) : Euc number s r1 x1 (r0 - r0 / r1 * r1) (x0 - r0 / r1 * x1) := by
  obtain ⟨n, d0, d1, g, e, y0, y1, he, rfl, rfl, p0, p1, b0, b1, c, eq⟩ := h
  have pos : 0 < r1 := by omega
  have hm : r0 - r0 / r1 * r1 = r0 % r1 := by rw [Int.emod_def, Int.mul_comm]
  have q0 : 0 ≤ r0 / r1 ∨ y1 = 0 := c.imp (fun h => Int.ediv_nonneg h n) id
  have hmn := Int.emod_nonneg r0 hr
  generalize hq : r0 / r1 = q at *
  have qy : 0 ≤ q * y1 := by
    rcases q0 with h | h
    · exact Int.mul_nonneg h p1
    · rw [h]; simp
  have key : r1 * (y0 + q * y1) + (r0 - q * r1) * y1 = s := by rw [← eq]; grind
  refine ⟨by rw [hm]; exact hmn, d1, ?_, ?_, -e, y1, y0 + q * y1, ?_, by grind, by grind, p1, by omega, b1, ?_, .inl (by omega), key⟩
  · obtain ⟨t0, h0⟩ := d0
    obtain ⟨t1, h1⟩ := d1
    exact ⟨t0 - q * t1, by grind⟩
  · rw [hm]
    rw [gcd_mod, g]
  · rcases he with e1 | e1 <;> rw [e1] <;> simp
  · have h1 : 0 ≤ (r0 - q * r1) * y1 := Int.mul_nonneg (by rw [hm]; exact hmn) p1
    have h2 : y0 + q * y1 ≤ r1 * (y0 + q * y1) := by
      have : (1 : Int) * (y0 + q * y1) ≤ r1 * (y0 + q * y1) := Int.mul_le_mul_of_nonneg_right (by omega) (by omega)
      omega
    omega
theorem Euc.fin {number : Int} {s : Nat} {r0 x0 x1 : Int} (h : Euc number s r0 x0 0 x1) : (s : Int) ∣ number * (r0 * x0) - 1 := by
  obtain ⟨_, ⟨t, d0⟩, _, g, _⟩ := h
  have : r0 = 1 ∨ r0 = -1 := by
    simp at g; omega
  rcases this with e | e
  · subst e; exact ⟨t, by rw [Int.one_mul]; omega⟩
  · subst e; exact ⟨-t, by grind⟩
theorem Euc.small {number : Int} {s : Nat} {r0 x0 r1 x1 : Int} (h : Euc number s r0 x0 r1 x1) : x0.natAbs ≤ s ∧ x1.natAbs ≤ s := by
  obtain ⟨_, _, _, _, e, y0, y1, he, rfl, rfl, p0, p1, b0, b1, _⟩ := h
  rcases he with e | e <;> subst e <;> constructor <;> omega
def topS (i : Nat) : Stmt := PySem.Challenge.pw_shadowlinks_k30_progressions.main.body.getD i (.Pass ⟨0, 0, 0, 0⟩)
abbrev N_progression : List Str := ["modulus", "rest"]
theorem sc_progression : FnScope N_progression ["modulus", "rest"] (defScope (topS 2)) := ⟨rfl, rfl, rfl, by decide +kernel, rfl, by decide +kernel, by decide +kernel⟩
abbrev N_is_in : List Str := ["number", "steps"]
theorem sc_is_in : FnScope N_is_in ["number", "steps"] (defScope (topS 3)) := ⟨rfl, rfl, rfl, by decide +kernel, rfl, by decide +kernel, by decide +kernel⟩
abbrev N_inverse : List Str := ["number", "modulus", "first", "second", "factor"]
theorem sc_inverse : FnScope N_inverse ["number", "modulus"] (defScope (topS 4)) := ⟨rfl, rfl, rfl, by decide +kernel, rfl, by decide +kernel, by decide +kernel⟩
abbrev N_solve_one : List Str := ["coefficient", "modulus", "rest", "shared", "size"]
theorem sc_solve_one : FnScope N_solve_one ["coefficient", "modulus", "rest"] (defScope (topS 5)) := ⟨rfl, rfl, rfl, by decide +kernel, rfl, by decide +kernel, by decide +kernel⟩
abbrev N_meet : List Str := ["progressions", "modulus", "rest", "step", "other", "found"]
theorem sc_meet : FnScope N_meet ["progressions"] (defScope (topS 6)) := ⟨rfl, rfl, rfl, by decide +kernel, rfl, by decide +kernel, by decide +kernel⟩
abbrev N__law_source : List Str := ["_law_script", "_law_k", "_law_number"]
theorem sc__law_source : FnScope N__law_source ["_law_script", "_law_k"] (defScope (topS 8)) := ⟨rfl, rfl, rfl, by decide +kernel, rfl, by decide +kernel, by decide +kernel⟩
abbrev N__law_draw : List Str := ["_law_source_here", "_law_limit", "_law_number", "_law_mixed"]
theorem sc__law_draw : FnScope N__law_draw ["_law_source_here", "_law_limit"] (defScope (topS 9)) := ⟨rfl, rfl, rfl, by decide +kernel, rfl, by decide +kernel, by decide +kernel⟩
abbrev N__law_size : List Str := ["_law_source_here", "_law_most", "_law_choice"]
theorem sc__law_size : FnScope N__law_size ["_law_source_here", "_law_most"] (defScope (topS 10)) := ⟨rfl, rfl, rfl, by decide +kernel, rfl, by decide +kernel, by decide +kernel⟩
abbrev N__law_shared : List Str := ["_law_first", "_law_second", "_law_a", "_law_b", "_law_k", "_law_rest"]
theorem sc__law_shared : FnScope N__law_shared ["_law_first", "_law_second"] (defScope (topS 11)) := ⟨rfl, rfl, rfl, by decide +kernel, rfl, by decide +kernel, by decide +kernel⟩
abbrev N__law_fits : List Str := ["_law_number", "_law_modulus"]
theorem sc__law_fits : FnScope N__law_fits ["_law_number", "_law_modulus"] (defScope (topS 12)) := ⟨rfl, rfl, rfl, by decide +kernel, rfl, by decide +kernel, by decide +kernel⟩
abbrev N__law_is_progression : List Str := ["_law_actual", "_law_number"]
theorem sc__law_is_progression : FnScope N__law_is_progression ["_law_actual"] (defScope (topS 13)) := ⟨rfl, rfl, rfl, by decide +kernel, rfl, by decide +kernel, by decide +kernel⟩
abbrev N__law_solved_right : List Str := ["_law_source_here", "_law_coefficient", "_law_modulus", "_law_rest", "_law_actual", "_law_shared_here"]
theorem sc__law_solved_right : FnScope N__law_solved_right ["_law_source_here"] (defScope (topS 14)) := ⟨rfl, rfl, rfl, by decide +kernel, rfl, by decide +kernel, by decide +kernel⟩
abbrev N__law_formed_right : List Str := ["_law_source_here", "_law_modulus", "_law_rest", "_law_actual", "_law_number", "_law_told"]
theorem sc__law_formed_right : FnScope N__law_formed_right ["_law_source_here"] (defScope (topS 15)) := ⟨rfl, rfl, rfl, by decide +kernel, rfl, by decide +kernel, by decide +kernel⟩
abbrev N__law_progressions : List Str := ["_law_source_here", "_law_common", "_law_same", "_law_found", "_law_k", "_law_modulus", "_law_rest"]
theorem sc__law_progressions : FnScope N__law_progressions ["_law_source_here"] (defScope (topS 16)) := ⟨rfl, rfl, rfl, by decide +kernel, rfl, by decide +kernel, by decide +kernel⟩
abbrev N__law_met : List Str := ["_law_steps"]
theorem sc__law_met : FnScope N__law_met ["_law_steps"] (defScope (topS 17)) := ⟨rfl, rfl, rfl, by decide +kernel, rfl, by decide +kernel, by decide +kernel⟩
abbrev N__law_least_multiple : List Str := ["_law_steps", "_law_found", "_law_modulus", "_law_rest"]
theorem sc__law_least_multiple : FnScope N__law_least_multiple ["_law_steps"] (defScope (topS 18)) := ⟨rfl, rfl, rfl, by decide +kernel, rfl, by decide +kernel, by decide +kernel⟩
abbrev N__law_meet_right : List Str := ["_law_steps", "_law_passed", "_law_actual", "_law_agree", "_law_first", "_law_second", "_law_modulus", "_law_rest"]
theorem sc__law_meet_right : FnScope N__law_meet_right ["_law_steps"] (defScope (topS 19)) := ⟨rfl, rfl, rfl, by decide +kernel, rfl, by decide +kernel, by decide +kernel⟩
abbrev N_law : List Str := ["_law_script", "_law_source_here", "_law_k", "_law_steps"]
theorem sc_law : FnScope N_law ["_law_script"] (defScope (topS 20)) := ⟨rfl, rfl, rfl, by decide +kernel, rfl, by decide +kernel, by decide +kernel⟩
structure Txt (K : PySem.W.Frag) (mg : Str → Option Value) (A : Nat → Addr) (D : Nat → FuncData) : Prop where
  F_progression : Fun K "progression" "progression" (topS 2) (A 2) (D 2)
  g_progression : mg "progression" = some (.ref (A 2))
  b_progression : Binds K (D 2) ["modulus", "rest"] []
  F_is_in : Fun K "is_in" "is_in" (topS 3) (A 3) (D 3)
  g_is_in : mg "is_in" = some (.ref (A 3))
  b_is_in : Binds K (D 3) ["number", "steps"] []
  F_inverse : Fun K "inverse" "inverse" (topS 4) (A 4) (D 4)
  g_inverse : mg "inverse" = some (.ref (A 4))
  b_inverse : Binds K (D 4) ["number", "modulus"] []
  F_solve_one : Fun K "solve_one" "solve_one" (topS 5) (A 5) (D 5)
  g_solve_one : mg "solve_one" = some (.ref (A 5))
  b_solve_one : Binds K (D 5) ["coefficient", "modulus", "rest"] []
  F_meet : Fun K "meet" "meet" (topS 6) (A 6) (D 6)
  g_meet : mg "meet" = some (.ref (A 6))
  F__law_source : Fun K "_law_source" "_law_source" (topS 8) (A 8) (D 8)
  g__law_source : mg "_law_source" = some (.ref (A 8))
  b__law_source : Binds K (D 8) ["_law_script", "_law_k"] []
  F__law_draw : Fun K "_law_draw" "_law_draw" (topS 9) (A 9) (D 9)
  g__law_draw : mg "_law_draw" = some (.ref (A 9))
  b__law_draw : Binds K (D 9) ["_law_source_here", "_law_limit"] []
  F__law_size : Fun K "_law_size" "_law_size" (topS 10) (A 10) (D 10)
  g__law_size : mg "_law_size" = some (.ref (A 10))
  b__law_size : Binds K (D 10) ["_law_source_here", "_law_most"] []
  F__law_shared : Fun K "_law_shared" "_law_shared" (topS 11) (A 11) (D 11)
  g__law_shared : mg "_law_shared" = some (.ref (A 11))
  b__law_shared : Binds K (D 11) ["_law_first", "_law_second"] []
  F__law_fits : Fun K "_law_fits" "_law_fits" (topS 12) (A 12) (D 12)
  g__law_fits : mg "_law_fits" = some (.ref (A 12))
  b__law_fits : Binds K (D 12) ["_law_number", "_law_modulus"] []
  F__law_is_progression : Fun K "_law_is_progression" "_law_is_progression" (topS 13) (A 13) (D 13)
  g__law_is_progression : mg "_law_is_progression" = some (.ref (A 13))
  b__law_is_progression : Binds K (D 13) ["_law_actual"] []
  F__law_solved_right : Fun K "_law_solved_right" "_law_solved_right" (topS 14) (A 14) (D 14)
  g__law_solved_right : mg "_law_solved_right" = some (.ref (A 14))
  b__law_solved_right : Binds K (D 14) ["_law_source_here"] []
  F__law_formed_right : Fun K "_law_formed_right" "_law_formed_right" (topS 15) (A 15) (D 15)
  g__law_formed_right : mg "_law_formed_right" = some (.ref (A 15))
  b__law_formed_right : Binds K (D 15) ["_law_source_here"] []
  F__law_progressions : Fun K "_law_progressions" "_law_progressions" (topS 16) (A 16) (D 16)
  g__law_progressions : mg "_law_progressions" = some (.ref (A 16))
  b__law_progressions : Binds K (D 16) ["_law_source_here"] []
  F__law_met : Fun K "_law_met" "_law_met" (topS 17) (A 17) (D 17)
  g__law_met : mg "_law_met" = some (.ref (A 17))
  b__law_met : Binds K (D 17) ["_law_steps"] []
  F__law_least_multiple : Fun K "_law_least_multiple" "_law_least_multiple" (topS 18) (A 18) (D 18)
  g__law_least_multiple : mg "_law_least_multiple" = some (.ref (A 18))
  b__law_least_multiple : Binds K (D 18) ["_law_steps"] []
  F__law_meet_right : Fun K "_law_meet_right" "_law_meet_right" (topS 19) (A 19) (D 19)
  g__law_meet_right : mg "_law_meet_right" = some (.ref (A 19))
  b__law_meet_right : Binds K (D 19) ["_law_steps"] []
  F_law : Fun K "law" "law" (topS 20) (A 20) (D 20)
  g_law : mg "law" = some (.ref (A 20))
  b_law : Binds K (D 20) ["_law_script"] []
  z_len : mg "len" = none
  z_int : mg "int" = none
  z_bool : mg "bool" = none
  z_list : mg "list" = none
  z_tuple : mg "tuple" = none
  z_range : mg "range" = none
  z_isinstance : mg "isinstance" = none
  z_abs : mg "abs" = none
  i_gcd : mg "gcd" = some (.builtin "math.gcd")
section
variable {P : Program} {w : World} {K : PySem.W.Frag} {mg : Str → Option Value} {base : Heap} {A : Nat → Addr} {D : Nat → FuncData}
def sp__law_source (K : PySem.W.Frag) : Sp := fun vs H Q _ => ∃ (a : Addr) (ns : List Int) (k : Nat), vs = [.ref a, .int (k : Int)] ∧ SqL K H a (ns.map V.int) ∧ ns.length ≤ 63 ∧
  ∀ p H', H p = none → Kp [] H H' → Src H' p → Q (.ref p) H'
theorem ok__law_source (T : Txt K mg A D) : FnOk P w K mg base CX0 1 (A 8) (D 8) ["_law_script", "_law_k"] (sp__law_source K) := by
  refine T.F__law_source.ok sc__law_source (fun vs H Q E h => ?_) (fun cdv A' outer s H vs Q E hr h => ?_)
  · obtain ⟨a, ns, k, rfl, hS, hl, q⟩ := h
    rfl
  · obtain ⟨a, ns, k, rfl, hS, hl, q⟩ := h
    have hu := hu_of hr
    refine ⟨_, (pss_cons (ps_set (i := 2) sc__law_source.nd rfl (Or.inl rfl) pe_int)
      (pss_cons (ps_if (pt_cmpR op_lt (pv 1) (pe_callB (id := "len") (cK_len (K := K) rfl) (by rfl) T.z_len (by decide +kernel) (pa_cons (pv 0) pa_nil)) (nomark _))
        (pss_one (ps_set (i := 2) sc__law_source.nd rfl (Or.inl rfl) (pe_callTy (T := "int") call_int1 (by rfl) T.z_int (by decide +kernel) (pa_cons (pe_ix (xK_list (K := K) rfl) (pv 0) (pv 1) (fun _ _ => rfl)) pa_nil))))
        pss_nil)
      (pss_one (ps_ret (pe_lst (pa_cons (pv 2) (pa_cons (pe_op op_add (pe_op op_mul pe_int (pv 1)) (pe_callB (id := "len") (cK_len (K := K) rfl) (by rfl) T.z_len (by decide +kernel) (pa_cons (pv 0) pa_nil))) pa_nil))))))), ?_⟩
    -- _law_number = 0; if _law_k < len(_law_script)
    refine ⟨_, rfl, _, rfl, _, ns.length, rfl, .inl ⟨_, hS, by rw [List.length_map]⟩, _, _, rfl, rfl, _, rfl, ?_⟩
    refine ite2 (fun c => ?_) (fun c => ?_)
    · have hk : k < ns.length := by simpa using c
      refine ⟨_, rfl, _, rfl, _, _, _, .int ns[k], rfl, rfl, hS, atI_nat (by simp [hk]), .inl ⟨_, rfl, ?_⟩⟩
      refine ⟨_, rfl, _, rfl, _, _, rfl, rfl, .inl ⟨by decide, by decide⟩, _, rfl, _, ns.length, rfl, .inl ⟨_, hS, by rw [List.length_map]⟩, _, _, rfl, rfl, sz (by simp), fun p hp => ?_⟩
      exact q p _ hp (Kp.new hp) ⟨_, _, upd_same⟩
    · refine ⟨_, rfl, _, rfl, _, _, rfl, rfl, .inl ⟨by decide, by decide⟩, _, rfl, _, ns.length, rfl, .inl ⟨_, hS, by rw [List.length_map]⟩, _, _, rfl, rfl, sz (by simp), fun p hp => ?_⟩
      exact q p _ hp (Kp.new hp) ⟨_, _, upd_same⟩
def sp__law_draw (K : PySem.W.Frag) : Sp := fun vs H Q _ => ∃ (a : Addr) (lim : Int), vs = [.ref a, .int lim] ∧ Src H a ∧ 0 < lim ∧ lim < 1073741824 ∧
  ∀ (r : Int) H', 0 ≤ r → r < lim → Kp [a] H H' → Src H' a → Q (.int r) H'
theorem ok__law_draw (T : Txt K mg A D) : FnOk P w K mg base CX0 1 (A 9) (D 9) ["_law_source_here", "_law_limit"] (sp__law_draw K) := by
  refine T.F__law_draw.ok sc__law_draw (fun vs H Q E h => ?_) (fun cdv A' outer s H vs Q E hr h => ?_)
  · obtain ⟨a, lim, rfl, ⟨n, c, hs⟩, h0, h1, q⟩ := h
    rfl
  · obtain ⟨a, lim, rfl, ⟨n, c, hs⟩, h0, h1, q⟩ := h
    have hu := hu_of hr
    refine ⟨_, (pss_cons (ps_set (i := 2) sc__law_draw.nd rfl (Or.inl rfl) (pe_ix (xK_list (K := K) rfl) (pv 0) pe_int (fun _ _ => rfl)))
      (pss_cons (ps_if (pt_cmpR op_ge (pv 2) (pe_op op_pow pe_int pe_int) (nomark _))
        (pss_cons (ps_asg (pe_op op_fdiv (pv 2) (pv 1)) (pg_sub (pv 0) pe_int set_list))
        (pss_one (ps_ret (pe_op op_mod (pe_callTy (T := "int") call_int1 (by rfl) T.z_int (by decide +kernel) (pa_cons (pv 2) pa_nil)) (pv 1)))))
        pss_nil)
      (pss_cons (ps_asg (pe_op op_add (pe_ix (xK_list (K := K) rfl) (pv 0) pe_int (fun _ _ => rfl)) pe_int) (pg_sub (pv 0) pe_int set_list))
      (pss_cons (ps_set (i := 3) sc__law_draw.nd rfl (Or.inl rfl) (pe_op op_mod (pe_callTy (T := "int") call_int1 (by rfl) T.z_int (by decide +kernel) (pa_cons (pe_op op_add (pe_op op_add (pe_op op_mul (pv 2) pe_int) (pe_op op_mul (pe_ix (xK_list (K := K) rfl) (pv 0) pe_int (fun _ _ => rfl)) pe_int)) pe_int) pa_nil)) pe_int))
      (pss_cons (ps_set (i := 3) sc__law_draw.nd rfl (Or.inl rfl) (pe_op op_mod (pe_callTy (T := "int") call_int1 (by rfl) T.z_int (by decide +kernel) (pa_cons (pe_op op_add (pe_op op_add (pe_op op_mul (pv 3) (pv 3)) (pv 2)) (pe_op op_mul (pe_ix (xK_list (K := K) rfl) (pv 0) pe_int (fun _ _ => rfl)) pe_int)) pa_nil)) pe_int))
      (pss_cons (ps_set (i := 3) sc__law_draw.nd rfl (Or.inl rfl) (pe_op op_mod (pe_callTy (T := "int") call_int1 (by rfl) T.z_int (by decide +kernel) (pa_cons (pe_op op_add (pe_op op_add (pe_op op_mul (pv 3) (pv 3)) (pe_op op_fdiv (pv 3) pe_int)) pe_int) pa_nil)) pe_int))
      (pss_one (ps_ret (pe_op op_mod (pe_op op_fdiv (pe_callTy (T := "int") call_int1 (by rfl) T.z_int (by decide +kernel) (pa_cons (pv 3) pa_nil)) pe_int) (pv 1)))))))))), ?_⟩
    walk_at "rds"
    refine ⟨⟨by decide, by decide, by decide⟩, ?_⟩
    walk_at "rds"
    have kp : ∀ o, Kp [a] H (upd H a o) := fun o => Kp.own hs rfl (by simp)
    refine ite2 (fun _ => ?_) (fun _ => ?_)
    · refine ⟨_, rfl, _, rfl, _, _, rfl, rfl, ⟨h0, h1⟩, _, rfl, a, _, _, 0, rfl, rfl, hs, rfl, ?_⟩
      refine ⟨_, rfl, .inl ⟨_, rfl, _, rfl, _, _, rfl, rfl, h0, ?_⟩⟩
      exact q _ _ (Int.emod_nonneg _ (by omega)) (Int.emod_lt_of_pos _ h0) (kp _) ⟨_, _, upd_same⟩
    · have e1 : SqL K H a [.int n, .int c] := SqL.of hs
      refine ⟨_, rfl, _, _, _, _, rfl, rfl, e1, rfl, _, _, rfl, rfl, _, rfl, a, _, _, 1, rfl, rfl, hs, rfl, ?_⟩
      have e2 : SqL K (upd H a (.lst [.int n, .int (c + 1)])) a [.int n, .int (c + 1)] := SqL.of upd_same
      refine ⟨_, rfl, _, _, rfl, rfl, .inr ⟨by decide, by decide⟩, _, rfl, _, _, _, _, rfl, rfl, e2, rfl, _, _, rfl, rfl, .inr ⟨by decide, by decide⟩, _, _, rfl, rfl, _, _, rfl, rfl, .inl ⟨_, rfl, _, _, rfl, rfl, (by show (0 : Int) < _; decide), ?_⟩⟩
      refine ⟨_, rfl, _, rfl, _, _, rfl, rfl, .inl ⟨by omega, by omega⟩, _, rfl, _, _, rfl, rfl, _, rfl, _, _, _, _, rfl, rfl, e2, rfl, _, _, rfl, rfl, .inr ⟨by decide, by decide⟩, _, _, rfl, rfl, .inl ⟨_, rfl, _, _, rfl, rfl, (by show (0 : Int) < _; decide), ?_⟩⟩
      refine ⟨_, rfl, _, rfl, _, _, rfl, rfl, .inl ⟨by omega, by omega⟩, _, rfl, _, _, rfl, rfl, ⟨by decide, by decide⟩, _, _, rfl, rfl, _, _, rfl, rfl, .inl ⟨_, rfl, _, _, rfl, rfl, (by show (0 : Int) < _; decide), ?_⟩⟩
      refine ⟨_, rfl, .inl ⟨_, rfl, _, _, rfl, rfl, ⟨by decide, by decide⟩, _, rfl, _, _, rfl, rfl, h0, ?_⟩⟩
      exact q _ _ (Int.emod_nonneg _ (by omega)) (Int.emod_lt_of_pos _ h0) (kp _) ⟨_, _, upd_same⟩
theorem w300 {i j : Int} (ha : i.natAbs < 2 ^ 1000) (hb : j.natAbs < 2 ^ 1000) : CMulW i j := wide_mul ha hb (by decide) (by decide) (by decide)
theorem d300 {i j : Int} (h : 0 < j) (hb : j.natAbs < 2 ^ 1000) : CDivW i j := wide_div h hb (by decide) (by decide)
theorem div_small {a b : Int} (h : 0 < b) : (a / b).natAbs ≤ a.natAbs := by
  rcases Int.le_total 0 a with ha | ha
  · have h1 := Int.ediv_nonneg ha (Int.le_of_lt h)
    have h2 := Int.ediv_le_self b ha
    omega
  · have e := Int.emod_add_mul_ediv a b
    have m0 := Int.emod_nonneg a (by omega : b ≠ 0)
    have m1 := Int.emod_lt_of_pos a h
    have h3 : a / b ≤ 0 := by
      by_cases z : 0 < a / b
      · have : b * 1 ≤ b * (a / b) := Int.mul_le_mul_of_nonneg_left (by omega) (by omega)
        omega
      · omega
    by_cases z : a / b < a
    · have h5 : b * (a / b) ≤ b * (a - 1) := Int.mul_le_mul_of_nonneg_left (by omega) (by omega)
      have h6 : b * a ≤ 1 * a := Int.mul_le_mul_of_nonpos_right (by omega) ha
      rw [Int.mul_sub] at h5
      omega
    · omega
/-- a pair of numbers stands at t -/
def Pr (H : Hp) (t : Addr) (m r : Int) : Prop := H t = some (.tup [.int m, .int r])
theorem Pr.kp {A : List Addr} {H H' : Hp} {t : Addr} {m r : Int} (k : Kp A H H') (h : Pr H t m r) : Pr H' t m r := k _ _ h (.inr rfl)
theorem Pr.sq {K : PySem.W.Frag} {H : Hp} {t : Addr} {m r : Int} (h : Pr H t m r) : SqT K H t [.int m, .int r] := SqT.of h
def pRest (m : Nat) (r : Int) : Int := if m = 0 then r else r % m
def sp_progression (K : PySem.W.Frag) : Sp := fun vs H Q _ => ∃ (m : Nat) (r : Int), vs = [.int (m : Int), .int r] ∧ ∀ p H', Kp [] H H' → Pr H' p m (pRest m r) → Q (.ref p) H'
theorem ok_progression (T : Txt K mg A D) : FnOk P w K mg base CX0 1 (A 2) (D 2) ["modulus", "rest"] (sp_progression K) := by
  refine T.F_progression.ok sc_progression (fun vs H Q E h => ?_) (fun cdv A' outer s H vs Q E hr h => ?_)
  · obtain ⟨m, r, rfl, q⟩ := h
    rfl
  · obtain ⟨m, r, rfl, q⟩ := h
    have hu := hu_of hr
    refine ⟨_, (pss_cons (ps_if (pt_cmpR op_eq (pv 0) pe_int (nomark _))
        (pss_one (ps_ret (pe_tup (pa_cons pe_int (pa_cons (pv 1) pa_nil)))))
        pss_nil)
      (pss_one (ps_ret (pe_tup (pa_cons (pv 0) (pa_cons (pe_op op_mod (pv 1) (pv 0)) pa_nil)))))), ?_⟩
    walk_at "if"
    · intro c
      have e : m = 0 := by simpa using c
      subst e
      walk_at "st"
      refine ⟨_, rfl, sz (by simp), fun p hp => ?_⟩
      exact q p _ (Kp.new hp) upd_same
    · intro c
      have e : m ≠ 0 := by simpa using c
      walk_at "st"
      refine ⟨_, rfl, _, rfl, _, rfl, _, _, rfl, rfl, (by show (0 : Int) < m; omega), sz (by simp), fun p hp => ?_⟩
      refine q p _ (Kp.new hp) ?_
      unfold pRest Pr
      rw [if_neg e]
      exact upd_same
def sp_is_in (K : PySem.W.Frag) : Sp := fun vs H Q _ => ∃ (n : Int) (t : Addr) (m : Nat) (r : Int), vs = [.int n, .ref t] ∧ Pr H t m r ∧ ∀ H', Kp [] H H' → Q (.bl (decide (pRest m n = r))) H'
theorem ok_is_in (T : Txt K mg A D) : FnOk P w K mg base CX0 2 (A 3) (D 3) ["number", "steps"] (sp_is_in K) := by
  refine T.F_is_in.ok sc_is_in (fun vs H Q E h => ?_) (fun cdv A' outer s H vs Q E hr h => ?_)
  · obtain ⟨n, t, m, r, rfl, ht, q⟩ := h
    rfl
  · obtain ⟨n, t, m, r, rfl, ht, q⟩ := h
    have hu := hu_of hr
    have G_progression : FnOk P w K mg base CX0 1 (A 2) (D 2) ["modulus", "rest"] (sp_progression K) := ok_progression T
    refine ⟨_, (pss_one (ps_ret (pe_cmpR (oK_eqD (K := K) rfl hr.units) (pe_call G_progression (hr.mono (by decide)) rfl T.g_progression T.F_progression.kp T.b_progression .nil pass0 (pa_cons (pe_ix (xK_tup (K := K) rfl) (pv 1) pe_int (fun _ _ => rfl)) (pa_cons (pv 0) pa_nil))) (pv 1) (nomark _)))), ?_⟩
    walk_at "st"
    refine ⟨_, rfl, t, _, 0, _, rfl, rfl, ht.sq, rfl, _, rfl, m, n, rfl, fun p H1 k1 hp => ?_⟩
    refine ⟨_, rfl, .tuple [.int m, .int (pRest m n)], .tuple [.int m, .int r], .tup (Pr.sq hp) (.cons (.int _) (.cons (.int _) .nil)), .tup (ht.kp k1).sq (.cons (.int _) (.cons (.int _) .nil)), shaped_of rfl (by simp [PyData.depth, PyData.depthAll]), shaped_of rfl (by simp [PyData.depth, PyData.depthAll]), ?_⟩
    refine asB (q _ k1) ?_
    simp [PyData.eqv, PyData.eqvAll]
    by_cases e : pRest m n = r <;> simp [e]
def sp_inverse (K : PySem.W.Frag) : Sp := fun vs H Q _ => ∃ (c : Int) (s : Nat), vs = [.int c, .int (s : Int)] ∧ 0 < s ∧ Nat.gcd c.natAbs s = 1 ∧ c.natAbs < 2 ^ 300 ∧ s < 2 ^ 300 ∧
  ∀ (i : Int) H', (s : Int) ∣ c * i - 1 → i.natAbs < 2 ^ 601 → Kp [] H H' → Q (.int i) H'
theorem ok_inverse (T : Txt K mg A D) : FnOk P w K mg base CX0 1 (A 4) (D 4) ["number", "modulus"] (sp_inverse K) := by
  refine T.F_inverse.ok sc_inverse (fun vs H Q E h => ?_) (fun cdv A' outer s H vs Q E hr h => ?_)
  · obtain ⟨c, s, rfl, hs, hg, bc, bs, q⟩ := h
    rfl
  · obtain ⟨c, s, rfl, hs, hg, bc, bs, q⟩ := h
    have hu := hu_of hr
    refine ⟨_, (pss_cons (ps_set (i := 2) sc_inverse.nd rfl (Or.inl rfl) (pe_tup (pa_cons (pv 0) (pa_cons pe_int pa_nil))))
      (pss_cons (ps_set (i := 3) sc_inverse.nd rfl (Or.inl rfl) (pe_tup (pa_cons (pv 1) (pa_cons pe_int pa_nil))))
      (pss_cons (ps_while PassesOwn.never (pt_cmpR op_ne (pe_ix (xK_tup (K := K) rfl) (pv 3) pe_int (fun _ _ => rfl)) pe_int (nomark _))
        (pss_cons (ps_set (i := 4) sc_inverse.nd rfl (Or.inl rfl) (pe_op op_fdivW (pe_ix (xK_tup (K := K) rfl) (pv 2) pe_int (fun _ _ => rfl)) (pe_ix (xK_tup (K := K) rfl) (pv 3) pe_int (fun _ _ => rfl))))
        (pss_one (ps_par (i := 2) (j := 3) (by rfl) sc_inverse.nd rfl rfl (by decide) rfl rfl (pa_cons (pv 3) (pa_cons (pe_tup (pa_cons (pe_op op_sub (pe_ix (xK_tup (K := K) rfl) (pv 2) pe_int (fun _ _ => rfl)) (pe_op op_mulW (pv 4) (pe_ix (xK_tup (K := K) rfl) (pv 3) pe_int (fun _ _ => rfl)))) (pa_cons (pe_op op_sub (pe_ix (xK_tup (K := K) rfl) (pv 2) pe_int (fun _ _ => rfl)) (pe_op op_mulW (pv 4) (pe_ix (xK_tup (K := K) rfl) (pv 3) pe_int (fun _ _ => rfl)))) pa_nil))) pa_nil)) (by rfl)))))
      (pss_one (ps_ret (pe_op op_mulW (pe_ix (xK_tup (K := K) rfl) (pv 2) pe_int (fun _ _ => rfl)) (pe_ix (xK_tup (K := K) rfl) (pv 2) pe_int (fun _ _ => rfl)))))))), ?_⟩
    walk_at "st"
    refine ⟨_, rfl, sz (by simp), fun p hp => ?_⟩
    walk_at "st"
    refine ⟨_, rfl, sz (by simp), fun p' hp' => ?_⟩
    refine seq_whileK ?_
    have k0 : Kp [] H (upd H p (.tup [.int c, .int 1])) := Kp.new hp
    refine ⟨fun m σ H' => ∃ (t0 t1 : Addr) (r0 x0 r1 x1 : Int) (v4 : Option V), σ = [some (.int c), some (.int (s : Int)), some (.ref t0), some (.ref t1), v4] ∧ Pr H' t0 r0 x0 ∧ Pr H' t1 r1 x1 ∧ Euc c s r0 x0 r1 x1 ∧ r1.toNat = m ∧ r0.natAbs < 2 ^ 300 ∧ r1.natAbs < 2 ^ 300 ∧ Kp [] H H',
      ⟨s, p, p', c, 1, s, 0, _, rfl, (Kp.new (A := []) hp').get upd_same (.inr rfl), upd_same, Euc.start hs hg, by omega, bc, by omega, k0.trans (Kp.new hp')⟩, fun m σ H' hW => ?_⟩
    obtain ⟨t0, t1, r0, x0, r1, x1, v4, rfl, h0, h1, eu, rm, b0, b1, kk⟩ := hW
    refine an_use (b := !decide (V.int r1 = V.int 0)) (an_cmp (vl_op (vl_var rfl) vl_c fun Q q => ⟨t1, _, 0, _, rfl, rfl, h1.sq, rfl, q⟩) vl_c fun Q q => ⟨rfl, q⟩) ?_
    refine ite2 (fun z => ?_) (fun z => ?_)
    · have hr : r1 ≠ 0 := by simpa using z
      have rp : 0 < r1 := by have := eu.r1n; omega
      have bs1 := eu.small
      have bq : (r0 / r1).natAbs < 2 ^ 300 := Nat.lt_of_le_of_lt (div_small rp) b0
      refine ⟨fun σ' H'' => ∃ m', m' < m ∧ ∃ (t0 t1 : Addr) (r0 x0 r1 x1 : Int) (v4 : Option V), σ' = [some (.int c), some (.int (s : Int)), some (.ref t0), some (.ref t1), v4] ∧ Pr H'' t0 r0 x0 ∧ Pr H'' t1 r1 x1 ∧ Euc c s r0 x0 r1 x1 ∧ r1.toNat = m' ∧ r0.natAbs < 2 ^ 300 ∧ r1.natAbs < 2 ^ 300 ∧ Kp [] H H'', fun _ _ h => h, ?_⟩
      walk_at "st"
      refine ⟨_, rfl, t0, _, 0, _, rfl, rfl, h0.sq, rfl, _, rfl, t1, _, 0, _, rfl, rfl, h1.sq, rfl, _, _, rfl, rfl, d300 rp (by omega), ?_⟩
      refine parK ?_
      refine ⟨_, rfl, _, rfl, t0, _, 0, _, rfl, rfl, h0.sq, rfl, _, rfl, _, rfl, t1, _, 0, _, rfl, rfl, h1.sq, rfl, _, _, rfl, rfl, w300 (by omega) (by omega), _, _, rfl, rfl, _, rfl, t0, _, 1, _, rfl, rfl, h0.sq, rfl, _, rfl, _, rfl, t1, _, 1, _, rfl, rfl, h1.sq, rfl, _, _, rfl, rfl, w300 (by omega) (by omega), _, _, rfl, rfl, sz (by simp), fun t ht => ?_⟩
      have e2 := eu.step hr
      have em : r0 - r0 / r1 * r1 = r0 % r1 := by rw [Int.emod_def, Int.mul_comm]
      have m0 := Int.emod_nonneg r0 hr
      have m1 := Int.emod_lt_of_pos r0 rp
      refine ⟨_, _, rfl, (r0 % r1).toNat, by omega, t1, t, r1, x1, _, _, _, rfl, h1.kp (Kp.new (A := []) ht), upd_same, e2, by rw [em], b1, by rw [em]; omega, kk.trans (Kp.new ht)⟩
    · have hr : r1 = 0 := by simpa using z
      subst hr
      have bs1 := eu.small
      walk_at "st"
      refine ⟨_, rfl, t0, _, 0, _, rfl, rfl, h0.sq, rfl, _, rfl, t0, _, 1, _, rfl, rfl, h0.sq, rfl, _, _, rfl, rfl, w300 (by omega) (by omega), ?_⟩
      refine q _ _ eu.fin ?_ kk
      have := wide_lt b0 (show x0.natAbs < 2 ^ 301 by omega)
      exact this
def gOf (c : Int) (m : Nat) : Nat := Nat.gcd c.natAbs m
def mOf (c : Int) (m : Nat) : Nat := if gOf c m = 0 then 1 else m / gOf c m
def sp_solve_one (K : PySem.W.Frag) : Sp := fun vs H Q _ => ∃ (c : Int) (m : Nat) (r : Int), vs = [.int c, .int (m : Int), .int r] ∧ c.natAbs < 2 ^ 300 ∧ m < 2 ^ 300 ∧ r.natAbs < 2 ^ 300 ∧ (c ≤ 0 → c.natAbs < 1073741824) ∧
  (¬ ((gOf c m : Nat) : Int) ∣ r → Q .non H) ∧
  ∀ p (R : Int) H', ((gOf c m : Nat) : Int) ∣ r → (m : Int) ∣ c * R - r → (mOf c m = 0 ∨ 0 ≤ R ∧ R < mOf c m) → R.natAbs < 2 ^ 300 → Kp [] H H' → Pr H' p (mOf c m) R → Q (.ref p) H'
theorem ok_solve_one (T : Txt K mg A D) : FnOk P w K mg base CX0 2 (A 5) (D 5) ["coefficient", "modulus", "rest"] (sp_solve_one K) := by
  refine T.F_solve_one.ok sc_solve_one (fun vs H Q E h => ?_) (fun cdv A' outer s H vs Q E hr h => ?_)
  · obtain ⟨c, m, r, rfl, bc, bm, br, bn, q0, q⟩ := h
    rfl
  · obtain ⟨c, m, r, rfl, bc, bm, br, bn, q0, q⟩ := h
    have hu := hu_of hr
    have G_progression : FnOk P w K mg base CX0 1 (A 2) (D 2) ["modulus", "rest"] (sp_progression K) := ok_progression T
    have G_inverse : FnOk P w K mg base CX0 1 (A 4) (D 4) ["number", "modulus"] (sp_inverse K) := ok_inverse T
    refine ⟨_, (pss_cons (ps_set (i := 3) sc_solve_one.nd rfl (Or.inl rfl) (pe_callBfun cr_gcd rfl T.i_gcd (pa_cons (pv 0) (pa_cons (pv 1) pa_nil))))
      (pss_cons (ps_if (pt_cmpR op_eq (pv 3) pe_int (nomark _))
        (pss_one (ps_ret (pe_ifExp (pt_cmpR op_eq (pv 2) pe_int (nomark _)) (pe_tup (pa_cons pe_int (pa_cons pe_int pa_nil))) pe_non)))
        pss_nil)
      (pss_cons (ps_if (pt_cmpR op_ne (pe_op op_mod (pv 2) (pv 3)) pe_int (nomark _))
        (pss_one (ps_ret pe_non))
        pss_nil)
      (pss_cons (ps_if (pt_cmpR op_eq (pv 1) pe_int (nomark _))
        (pss_one (ps_ret (pe_tup (pa_cons pe_int (pa_cons (pe_op (op_or2 op_fdivN op_fdivW) (pv 2) (pv 0)) pa_nil)))))
        pss_nil)
      (pss_cons (ps_set (i := 4) sc_solve_one.nd rfl (Or.inl rfl) (pe_op op_fdivW (pv 1) (pv 3)))
      (pss_one (ps_ret (pe_call G_progression (hr.mono (by decide)) rfl T.g_progression T.F_progression.kp T.b_progression .nil pass0 (pa_cons (pv 4) (pa_cons (pe_op op_mulW (pe_op op_fdivW (pv 2) (pv 3)) (pe_call G_inverse (hr.mono (by decide)) rfl T.g_inverse T.F_inverse.kp T.b_inverse .nil pass0 (pa_cons (pe_op op_fdivW (pv 0) (pv 3)) (pa_cons (pv 4) pa_nil)))) pa_nil)))))))))), ?_⟩
    walk_at "st"
    refine ⟨_, rfl, _, rfl, c, m, rfl, ?_⟩
    have eg : Nat.gcd c.natAbs ((m : Int).natAbs) = gOf c m := rfl
    rw [eg]
    walk_at "if"
    · intro z
      have e : gOf c m = 0 := by simpa using z
      have ec : c = 0 := by have := Nat.eq_zero_of_gcd_eq_zero_left e; omega
      have em : m = 0 := Nat.eq_zero_of_gcd_eq_zero_right e
      subst ec em
      walk_at "st"
      refine ⟨_, rfl, rfl, _, rfl, ?_⟩
      refine ite2 (fun y => ?_) (fun y => ?_)
      · have er : r = 0 := by simpa using y
        subst er
        refine ⟨sz (by simp), fun p hp => ?_⟩
        exact q p 0 _ ⟨0, by simp⟩ ⟨0, by simp⟩ (.inr ⟨by omega, by decide⟩) (by decide) (Kp.new hp) upd_same
      · have er : r ≠ 0 := by simpa using y
        exact q0 fun h => er (by rw [e] at h; obtain ⟨t, h⟩ := h; omega)
    · intro z
      have e : gOf c m ≠ 0 := by simpa using z
      have gp : 0 < ((gOf c m : Nat) : Int) := by omega
      have bg : ((gOf c m : Nat) : Int).natAbs < 2 ^ 300 := by
        have h3 : gOf c m = Nat.gcd c.natAbs m := rfl
        rcases Nat.eq_zero_or_pos m with k | k
        · subst k
          rw [h3, Nat.gcd_zero_right]; simpa using bc
        · have := Nat.le_of_dvd k (Nat.gcd_dvd_right c.natAbs m)
          rw [h3]; omega
      walk_at "if"
      · intro y
        have ny : ¬ ((gOf c m : Nat) : Int) ∣ r := fun h => by
          have e0 := Int.emod_eq_zero_of_dvd h
          have y' : (!decide (V.int (r % ((gOf c m : Nat) : Int)) = V.int 0)) = true := y
          rw [e0] at y'; simp at y'
        walk_at "st"
        exact q0 ny
      · intro y
        have dy : ((gOf c m : Nat) : Int) ∣ r := Int.dvd_of_emod_eq_zero (by simpa using y)
        have gc : ((gOf c m : Nat) : Int) ∣ c := Int.ofNat_dvd_left.mpr (Nat.gcd_dvd_left _ _)
        have gm : gOf c m ∣ m := Nat.gcd_dvd_right _ _
        walk_at "if"
        · intro x
          have em : m = 0 := by simpa using x
          subst em
          have c0 : c ≠ 0 := fun h => e (by rw [h]; rfl)
          have cd : c ∣ r := by
            have h3 : gOf c 0 = c.natAbs := Nat.gcd_zero_right _
            rw [h3] at dy
            exact Int.natAbs_dvd.mp dy
          have hM : mOf c 0 = 0 := by unfold mOf; rw [if_neg e]; simp
          have sml : ∀ z : Int, c * z = r → z.natAbs < 2 ^ 300 := fun z hz => by
            rcases Nat.eq_zero_or_pos z.natAbs with k | k
            · rw [k]; exact Nat.two_pow_pos _
            · have h1 : c.natAbs * z.natAbs = r.natAbs := by rw [← Int.natAbs_mul, hz]
              have h2 : 1 * z.natAbs ≤ c.natAbs * z.natAbs := Nat.mul_le_mul_right _ (by omega)
              omega
          walk_at "st"
          by_cases cp : 0 < c
          · refine ⟨_, rfl, _, rfl, .inr ⟨_, _, rfl, rfl, d300 cp (by omega), sz (by simp), fun p hp => ?_⟩⟩
            have h := Int.mul_ediv_cancel' cd
            exact q p _ _ dy ⟨0, by rw [h]; omega⟩ (.inl hM) (sml _ h) (Kp.new hp) (by rw [hM]; exact upd_same)
          · refine ⟨_, rfl, _, rfl, .inl ⟨_, _, rfl, rfl, ⟨c0, bn (by omega)⟩, sz (by simp), fun p hp => ?_⟩⟩
            have h : c * r.fdiv c = r := by
              obtain ⟨t, rfl⟩ := cd
              rw [Int.mul_fdiv_cancel_left _ c0]
            exact q p _ _ dy ⟨0, by rw [h]; omega⟩ (.inl hM) (sml _ h) (Kp.new hp) (by rw [hM]; exact upd_same)
        · intro x
          have m0 : m ≠ 0 := by simpa using x
          have hM : mOf c m = m / gOf c m := by unfold mOf; rw [if_neg e]
          have sp : 0 < m / gOf c m := Nat.div_pos (Nat.le_of_dvd (by omega) gm) (by omega)
          have es : (m : Int) / ((gOf c m : Nat) : Int) = ((m / gOf c m : Nat) : Int) := (Int.natCast_ediv _ _).symm
          have hcop : Nat.gcd (c / ((gOf c m : Nat) : Int)).natAbs (m / gOf c m) = 1 := by
            have h1 : (c / ((gOf c m : Nat) : Int)).natAbs = c.natAbs / gOf c m := by
              rw [Int.natAbs_ediv_of_dvd gc]; rfl
            rw [h1]
            exact Nat.coprime_div_gcd_div_gcd (Nat.pos_of_ne_zero e)
          refine seq_set (v := .int ((m / gOf c m : Nat) : Int)) (Vl.to (vl_op (vl_var rfl) (vl_var rfl) fun Q q => ⟨_, _, rfl, rfl, d300 gp (by omega), q⟩) (by rw [← es])) ?_
          walk_at "st"
          refine ⟨_, rfl, _, rfl, _, rfl, _, _, rfl, rfl, d300 gp (by omega), _, rfl, _, rfl, _, _, rfl, rfl, d300 gp (by omega), _, rfl, _, _, rfl, sp, hcop, Nat.lt_of_le_of_lt (div_small gp) bc, Nat.lt_of_le_of_lt (Nat.div_le_self _ _) bm, fun i H1 hi bi k1 => ?_⟩
          refine ⟨_, _, rfl, rfl, w300 (by have := div_small (a := r) gp; omega) (by omega), m / gOf c m, _, rfl, fun p H2 k2 h2 => ?_⟩
          have hR : pRest (m / gOf c m) (r / ((gOf c m : Nat) : Int) * i) = r / ((gOf c m : Nat) : Int) * i % ((m / gOf c m : Nat) : Int) := by unfold pRest; rw [if_neg (by omega)]
          rw [hR] at h2
          have l0 := Int.emod_nonneg (r / ((gOf c m : Nat) : Int) * i) (by omega : ((m / gOf c m : Nat) : Int) ≠ 0)
          have l1 := Int.emod_lt_of_pos (r / ((gOf c m : Nat) : Int) * i) (by omega : 0 < ((m / gOf c m : Nat) : Int))
          refine q p _ _ dy (solve_mod (by omega) gc dy gm hi) (.inr ⟨l0, by rw [hM]; exact l1⟩) ?_ (k1.trans k2) (by rw [hM]; exact h2)
          have := Nat.div_le_self m (gOf c m)
          omega
def sp__law_size (K : PySem.W.Frag) : Sp := fun vs H Q _ => ∃ (a : Addr) (most : Int), vs = [.ref a, .int most] ∧ Src H a ∧ 13 ≤ most ∧ most < 1073741824 ∧
  ∀ (r : Int) H', 0 ≤ r → r < most → Kp [a] H H' → Src H' a → Q (.int r) H'
theorem ok__law_size (T : Txt K mg A D) : FnOk P w K mg base CX0 2 (A 10) (D 10) ["_law_source_here", "_law_most"] (sp__law_size K) := by
  refine T.F__law_size.ok sc__law_size (fun vs H Q E h => ?_) (fun cdv A' outer s H vs Q E hr h => ?_)
  · obtain ⟨a, most, rfl, hs, m0, m1, q⟩ := h
    rfl
  · obtain ⟨a, most, rfl, hs, m0, m1, q⟩ := h
    have hu := hu_of hr
    have G__law_draw : FnOk P w K mg base CX0 1 (A 9) (D 9) ["_law_source_here", "_law_limit"] (sp__law_draw K) := ok__law_draw T
    refine ⟨_, (pss_cons (ps_set (i := 2) sc__law_size.nd rfl (Or.inl rfl) (pe_call G__law_draw (hr.mono (by decide)) rfl T.g__law_draw T.F__law_draw.kp T.b__law_draw .nil pass0 (pa_cons (pv 0) (pa_cons pe_int pa_nil))))
      (pss_cons (ps_if (pt_cmpR op_eq (pv 2) pe_int (nomark _))
        (pss_one (ps_ret (pe_call G__law_draw (hr.mono (by decide)) rfl T.g__law_draw T.F__law_draw.kp T.b__law_draw .nil pass0 (pa_cons (pv 0) (pa_cons pe_int pa_nil)))))
        pss_nil)
      (pss_cons (ps_if (pt_cmpR op_lt (pv 2) pe_int (nomark _))
        (pss_one (ps_ret (pe_call G__law_draw (hr.mono (by decide)) rfl T.g__law_draw T.F__law_draw.kp T.b__law_draw .nil pass0 (pa_cons (pv 0) (pa_cons pe_int pa_nil)))))
        pss_nil)
      (pss_one (ps_ret (pe_call G__law_draw (hr.mono (by decide)) rfl T.g__law_draw T.F__law_draw.kp T.b__law_draw .nil pass0 (pa_cons (pv 0) (pa_cons (pv 1) pa_nil)))))))), ?_⟩
    walk_at "st"
    refine ⟨_, rfl, a, 5, rfl, hs, by decide, by decide, fun ch H1 c0 c1 k1 s1 => ?_⟩
    walk_at "if"
    · intro _
      walk_at "st"
      exact ⟨_, rfl, a, 2, rfl, s1, by decide, by decide, fun r H2 r0 r1 k2 s2 => q r H2 r0 (by omega) (k1.trans k2) s2⟩
    · intro _
      walk_at "if"
      · intro _
        walk_at "st"
        exact ⟨_, rfl, a, 13, rfl, s1, by decide, by decide, fun r H2 r0 r1 k2 s2 => q r H2 r0 (by omega) (k1.trans k2) s2⟩
      · intro _
        walk_at "st"
        exact ⟨_, rfl, _, rfl, a, most, rfl, s1, by omega, by omega, fun r H2 r0 r1 k2 s2 => q r H2 r0 (by omega) (k1.trans k2) s2⟩
theorem euc_half {x y j : Nat} (hy : y ≠ 0) (h : y ≤ x) (b : x * y * 2 ^ j < 2 ^ 400) : y * (x % y) * 2 ^ (j + 1) < 2 ^ 400 := by
  have h1 : 2 * (x % y) ≤ x := by
    have l := Nat.mod_lt x (Nat.pos_of_ne_zero hy)
    have e := Nat.div_add_mod x y
    have : 1 ≤ x / y := Nat.div_pos h (Nat.pos_of_ne_zero hy)
    have : y * 1 ≤ y * (x / y) := Nat.mul_le_mul_left _ this
    omega
  have h2 : y * (x % y) * 2 ^ (j + 1) = (y * (2 * (x % y))) * 2 ^ j := by rw [Nat.pow_succ]; grind
  have h3 : (y * (2 * (x % y))) * 2 ^ j ≤ (y * x) * 2 ^ j := Nat.mul_le_mul_right _ (Nat.mul_le_mul_left _ h1)
  rw [h2]
  rw [Nat.mul_comm x y] at b
  omega
theorem euc_end {x y j : Nat} (h : y < x) (hj : 400 ≤ j) (b : x * y * 2 ^ j < 2 ^ 400) : y = 0 := by
  rcases Nat.eq_zero_or_pos y with e | e
  · exact e
  · exfalso
    have h1 : 1 ≤ x * y := Nat.mul_pos (by omega) e
    have h2 : 2 ^ 400 ≤ 2 ^ j := Nat.pow_le_pow_right (by decide) hj
    have h3 : 1 * 2 ^ j ≤ x * y * 2 ^ j := Nat.mul_le_mul_right _ h1
    omega
def sp__law_shared (K : PySem.W.Frag) : Sp := fun vs H Q _ => ∃ (x y : Int), vs = [.int x, .int y] ∧ x.natAbs < 2 ^ 200 ∧ y.natAbs < 2 ^ 200 ∧ Q (.int ((Nat.gcd x.natAbs y.natAbs : Nat) : Int)) H
theorem ok__law_shared (T : Txt K mg A D) : FnOk P w K mg base CX0 1 (A 11) (D 11) ["_law_first", "_law_second"] (sp__law_shared K) := by
  refine T.F__law_shared.ok sc__law_shared (fun vs H Q E h => ?_) (fun cdv A' outer s H vs Q E hr h => ?_)
  · obtain ⟨x, y, rfl, bx, by_, q⟩ := h
    rfl
  · obtain ⟨x, y, rfl, bx, by_, q⟩ := h
    have hu := hu_of hr
    refine ⟨_, (pss_cons (ps_set (i := 2) sc__law_shared.nd rfl (Or.inl rfl) (pe_callB (id := "abs") call_abs (by rfl) T.z_abs (by decide +kernel) (pa_cons (pv 0) pa_nil)))
      (pss_cons (ps_set (i := 3) sc__law_shared.nd rfl (Or.inl rfl) (pe_callB (id := "abs") call_abs (by rfl) T.z_abs (by decide +kernel) (pa_cons (pv 1) pa_nil)))
      (pss_cons (ps_for PassesOwn.never rfl (pi_range1 rfl T.z_range (pa_cons pe_int pa_nil)) (pg_name (i := 4) sc__law_shared.nd rfl (Or.inl rfl))
        (pss_cons (ps_if (pt_cmpR op_eq (pv 3) pe_int (nomark _))
          (pss_one (ps_ret (pv 2)))
          pss_nil)
        (pss_cons (ps_set (i := 5) sc__law_shared.nd rfl (Or.inl rfl) (pe_op op_mod (pe_callTy (T := "int") call_int1 (by rfl) T.z_int (by decide +kernel) (pa_cons (pv 2) pa_nil)) (pv 3)))
        (pss_cons (ps_set (i := 2) sc__law_shared.nd rfl (Or.inl rfl) (pv 3))
        (pss_one (ps_set (i := 3) sc__law_shared.nd rfl (Or.inl rfl) (pv 5)))))))
      (pss_one (ps_ret (pv 2)))))), ?_⟩
    walk_at "st"
    refine ⟨_, rfl, x, rfl, ?_⟩
    walk_at "st"
    refine ⟨_, rfl, y, rfl, ?_⟩
    have ax : (if x < 0 then -x else x) = ((x.natAbs : Nat) : Int) := by split <;> omega
    have ay : (if y < 0 then -y else y) = ((y.natAbs : Nat) : Int) := by split <;> omega
    rw [ax, ay]
    refine seq_forK ?_
    refine ⟨_, rfl, by decide, by decide, for_seq walk_range (fun i σ H' => H' = H ∧ ∃ (a b : Nat) (v4 v5 : Option V), σ = [some (.int x), some (.int y), some (.int (a : Int)), some (.int (b : Int)), v4, v5] ∧ Nat.gcd a b = Nat.gcd x.natAbs y.natAbs ∧ (i = 0 → a * b < 2 ^ 400) ∧ (0 < i → b < a ∧ a * b * 2 ^ (i - 1) < 2 ^ 400))
      ⟨rfl, x.natAbs, y.natAbs, _, _, rfl, rfl, fun _ => ?_, fun h => by omega⟩ (fun _ _ _ _ _ => trivial) ?_ ?_⟩
    · have h1 := Nat.mul_lt_mul'' bx by_
      rw [← Nat.pow_add] at h1; exact h1
    · rintro i v σ H1 H2 hi ⟨rfl, a, b, v4, v5, rfl, g, h0, h1⟩ ⟨rfl, rfl⟩
      walk_at "if"
      · intro z
        have e : b = 0 := by simpa using z
        subst e
        rw [Nat.gcd_zero_right] at g
        walk_at "st"
        refine ⟨_, rfl, ?_⟩
        rw [← g] at q
        exact q
      · intro z
        have e : b ≠ 0 := by simpa using z
        walk_at "st"
        refine ⟨_, rfl, .inl ⟨_, rfl, _, rfl, _, _, rfl, rfl, (by show (0 : Int) < b; omega), ?_⟩⟩
        walk_at "st"
        refine ⟨_, rfl, ?_⟩
        walk_at "st"
        refine ⟨_, rfl, ?_⟩
        have em : ((a : Int) % (b : Int)) = ((a % b : Nat) : Int) := (Int.natCast_emod a b).symm
        refine ⟨rfl, b, a % b, _, _, by rw [← em]; rfl, ?_, fun h => by omega, fun _ => ⟨Nat.mod_lt _ (Nat.pos_of_ne_zero e), ?_⟩⟩
        · rw [← g, Nat.gcd_comm a b, Nat.gcd_rec b a, Nat.gcd_comm]
        · rcases Nat.eq_zero_or_pos i with z | z
          · subst z
            have := h0 rfl
            rcases Nat.lt_or_ge a b with l | l
            · rw [Nat.mod_eq_of_lt l, Nat.mul_comm b a]; simpa using this
            · have := euc_half (j := 0) e l (by simpa using this)
              have h2 : b * (a % b) * 1 ≤ b * (a % b) * 2 := Nat.mul_le_mul_left _ (by decide)
              simp at this ⊢; omega
          · obtain ⟨l, b1⟩ := h1 z
            have := euc_half e (Nat.le_of_lt l) b1
            have ei : i - 1 + 1 = i := by omega
            rw [ei] at this
            simpa using this
    · rintro σ H1 ⟨rfl, a, b, v4, v5, rfl, g, h0, h1⟩
      obtain ⟨l, b1⟩ := h1 (by decide)
      have e := euc_end l (by decide) b1
      subst e
      rw [Nat.gcd_zero_right] at g
      walk_at "st"
      refine ⟨_, rfl, ?_⟩
      rw [← g] at q
      exact q
def sp__law_fits (K : PySem.W.Frag) : Sp := fun vs H Q _ => ∃ (n : Int) (m : Nat), vs = [.int n, .int (m : Int)] ∧ Q (.bl (decide ((m : Int) ∣ n))) H
theorem ok__law_fits (T : Txt K mg A D) : FnOk P w K mg base CX0 1 (A 12) (D 12) ["_law_number", "_law_modulus"] (sp__law_fits K) := by
  refine T.F__law_fits.ok sc__law_fits (fun vs H Q E h => ?_) (fun cdv A' outer s H vs Q E hr h => ?_)
  · obtain ⟨n, m, rfl, q⟩ := h
    rfl
  · obtain ⟨n, m, rfl, q⟩ := h
    have hu := hu_of hr
    refine ⟨_, (pss_cons (ps_if (pt_cmpR op_eq (pv 1) pe_int (nomark _))
        (pss_one (ps_ret (pe_cmpR op_eq (pv 0) pe_int (nomark _))))
        pss_nil)
      (pss_one (ps_ret (pe_cmpR op_eq (pe_op op_mod (pe_callTy (T := "int") call_int1 (by rfl) T.z_int (by decide +kernel) (pa_cons (pv 0) pa_nil)) (pv 1)) pe_int (nomark _))))), ?_⟩
    walk_at "if"
    · intro z
      have e : m = 0 := by simpa using z
      subst e
      walk_at "st"
      refine ⟨_, rfl, rfl, asB q ?_⟩
      by_cases h : n = 0
      · subst h; simp
      · have : ¬ ((0 : Nat) : Int) ∣ n := fun ⟨t, ht⟩ => h (by rw [ht]; simp)
        simp [h, this]
    · intro z
      have e : m ≠ 0 := by simpa using z
      walk_at "st"
      refine ⟨_, rfl, .inl ⟨_, rfl, _, rfl, _, _, rfl, rfl, (by show (0 : Int) < m; omega), rfl, asB q (show decide ((m : Int) ∣ n) = decide (V.int (n % (m : Int)) = V.int 0) from ?_)⟩⟩
      by_cases h : (m : Int) ∣ n
      · rw [decide_eq_true h, Int.emod_eq_zero_of_dvd h]; rfl
      · rw [decide_eq_false h]
        have : ¬ n % (m : Int) = 0 := fun z => h (Int.dvd_of_emod_eq_zero z)
        simp [this]
def sp__law_is_progression (K : PySem.W.Frag) : Sp := fun vs H Q _ => ∃ (p : Addr) (M : Nat) (R : Int), vs = [.ref p] ∧ Pr H p M R ∧ (M = 0 ∨ 0 ≤ R ∧ R < M) ∧ Q (.bl true) H
theorem ok__law_is_progression (T : Txt K mg A D) : FnOk P w K mg base CX0 1 (A 13) (D 13) ["_law_actual"] (sp__law_is_progression K) := by
  refine T.F__law_is_progression.ok sc__law_is_progression (fun vs H Q E h => ?_) (fun cdv A' outer s H vs Q E hr h => ?_)
  · obtain ⟨p, M, R, rfl, hp, hR, q⟩ := h
    rfl
  · obtain ⟨p, M, R, rfl, hp, hR, q⟩ := h
    have hu := hu_of hr
    refine ⟨_, (pss_cons (ps_if (PW.pt (pw_or (pt_not (pt_val (pe_callB (id := "isinstance") (cK_isi (K := K) rfl) (by rfl) T.z_isinstance (by decide +kernel) (pa_cons (pv 0) (pa_cons (pe_bltn (v := .ty "tuple") (u := .type "tuple") (by rfl) T.z_tuple (by decide +kernel) rfl) pa_nil))))) (pw_or1 (pt_cmpR op_ne (pe_callB (id := "len") (cK_len (K := K) rfl) (by rfl) T.z_len (by decide +kernel) (pa_cons (pv 0) pa_nil)) pe_int (nomark _)))))
        (pss_one (ps_ret pe_bl))
        pss_nil)
      (pss_cons (ps_for PassesOwn.never rfl (iK_tup (K := K) rfl (pv 0)) (pg_name (i := 1) sc__law_is_progression.nd rfl (Or.inl rfl))
        (pss_one (ps_if (PW.pt (pw_or (pt_not (pt_val (pe_callB (id := "isinstance") (cK_isi (K := K) rfl) (by rfl) T.z_isinstance (by decide +kernel) (pa_cons (pv 1) (pa_cons (pe_bltn (v := .ty "int") (u := .type "int") (by rfl) T.z_int (by decide +kernel) rfl) pa_nil))))) (pw_or1 (pt_val (pe_callB (id := "isinstance") (cK_isi (K := K) rfl) (by rfl) T.z_isinstance (by decide +kernel) (pa_cons (pv 1) (pa_cons (pe_bltn (v := .ty "bool") (u := .type "bool") (by rfl) T.z_bool (by decide +kernel) rfl) pa_nil)))))))
          (pss_one (ps_ret pe_bl))
          pss_nil)))
      (pss_one (ps_ret (pe_or (pe_cmpR op_eq (pe_ix (xK_tup (K := K) rfl) (pv 0) pe_int (fun _ _ => rfl)) pe_int (nomark _)) (pe_one (pe_chain op_le op_lt pe_int (pe_ix (xK_tup (K := K) rfl) (pv 0) pe_int (fun _ _ => rfl)) (pe_ix (xK_tup (K := K) rfl) (pv 0) pe_int (fun _ _ => rfl))))))))), ?_⟩
    have hq : SqT K H p [.int (M : Int), .int R] := hp.sq
    refine seq_if0 (b := false) (An.to (an_or (a := false) (b := false) (an_not (a := true) (an_val (vl_cb2 (vl_var rfl) vl_c fun Q q => ⟨_, _, _, _, true, rfl, .ty "tuple", .base (.tup hp), kit_ty (by decide +kernel), q⟩))) fun _ => an_cmp (vl_cb1 (z := .int 2) (vl_var rfl) fun Q q => ⟨_, 2, rfl, .inr ⟨_, hq, rfl⟩, q⟩) vl_c fun Q q => ⟨rfl, q⟩) rfl) (fun c => Bool.noConfusion c) (fun _ => ?_)
    refine seq_forK ?_
    refine ⟨_, rfl, _, rfl, ⟨_, hq⟩, for_seq walk_tup (fun i σ H' => H' = H ∧ ∃ v, σ = [some (.ref p), v]) ⟨rfl, _, rfl⟩ (fun i σ H' _ z => by rw [z.1]; exact hq) ?_ ?_⟩
    · rintro i v σ H1 H2 hi ⟨rfl, v1, rfl⟩ ⟨rfl, hv⟩
      have : ∃ n : Int, v = .int n := by
        match i, hv with
        | 0, h => exact ⟨_, (Option.some.inj h).symm⟩
        | 1, h => exact ⟨_, (Option.some.inj h).symm⟩
        | _ + 2, h => simp at h
      obtain ⟨n, rfl⟩ := this
      refine gnK ?_
      refine if_an (b := false) (An.to (an_or (a := false) (b := false) (an_not (a := true) (an_val (vl_cb2 (vl_var rfl) vl_c fun Q q => ⟨_, _, _, _, true, rfl, .ty "int", .base (.int n), kit_ty (by decide +kernel), q⟩))) fun _ => an_val (vl_cb2 (vl_var rfl) vl_c fun Q q => ⟨_, _, _, _, false, rfl, .ty "bool", .base (.int n), kit_ty (by decide +kernel), q⟩)) rfl) (fun c => Bool.noConfusion c) (fun _ => ?_)
      exact ⟨rfl, _, rfl⟩
    · rintro σ H1 ⟨rfl, v1, rfl⟩
      refine ret_vl (v := .bl true) (Vl.to (by walk_at "vl") ?_) q
      simp
      omega
def sp__law_solved_right (K : PySem.W.Frag) : Sp := fun vs H Q _ => ∃ (a : Addr), vs = [.ref a] ∧ Src H a ∧ ∀ H', Kp [a] H H' → Src H' a → Q (.bl true) H'
theorem ok__law_solved_right (T : Txt K mg A D) : FnOk P w K mg base CX0 3 (A 14) (D 14) ["_law_source_here"] (sp__law_solved_right K) := by
  refine T.F__law_solved_right.ok sc__law_solved_right (fun vs H Q E h => ?_) (fun cdv A' outer s H vs Q E hr h => ?_)
  · obtain ⟨a, rfl, hs, q⟩ := h
    rfl
  · obtain ⟨a, rfl, hs, q⟩ := h
    have hu := hu_of hr
    have G__law_size : FnOk P w K mg base CX0 2 (A 10) (D 10) ["_law_source_here", "_law_most"] (sp__law_size K) := ok__law_size T
    have G_solve_one : FnOk P w K mg base CX0 2 (A 5) (D 5) ["coefficient", "modulus", "rest"] (sp_solve_one K) := ok_solve_one T
    have G__law_shared : FnOk P w K mg base CX0 1 (A 11) (D 11) ["_law_first", "_law_second"] (sp__law_shared K) := ok__law_shared T
    have G__law_draw : FnOk P w K mg base CX0 1 (A 9) (D 9) ["_law_source_here", "_law_limit"] (sp__law_draw K) := ok__law_draw T
    have G__law_fits : FnOk P w K mg base CX0 1 (A 12) (D 12) ["_law_number", "_law_modulus"] (sp__law_fits K) := ok__law_fits T
    have G__law_is_progression : FnOk P w K mg base CX0 1 (A 13) (D 13) ["_law_actual"] (sp__law_is_progression K) := ok__law_is_progression T
    refine ⟨_, (pss_cons (ps_set (i := 1) sc__law_solved_right.nd rfl (Or.inl rfl) (pe_call G__law_size (hr.mono (by decide)) rfl T.g__law_size T.F__law_size.kp T.b__law_size .nil pass0 (pa_cons (pv 0) (pa_cons pe_int pa_nil))))
      (C8.pss_cut (ps_if (pt_cmpR op_eq (pe_call G__law_draw (hr.mono (by decide)) rfl T.g__law_draw T.F__law_draw.kp T.b__law_draw .nil pass0 (pa_cons (pv 0) (pa_cons pe_int pa_nil))) pe_int (nomark _))
        (pss_one (ps_set (i := 1) sc__law_solved_right.nd rfl (Or.inl rfl) (pe_un un_neg (pv 1))))
        pss_nil)
      (pss_cons (ps_set (i := 2) sc__law_solved_right.nd rfl (Or.inl rfl) (pe_call G__law_size (hr.mono (by decide)) rfl T.g__law_size T.F__law_size.kp T.b__law_size .nil pass0 (pa_cons (pv 0) (pa_cons pe_int pa_nil))))
      (pss_cons (ps_set (i := 3) sc__law_solved_right.nd rfl (Or.inl rfl) (pe_call G__law_size (hr.mono (by decide)) rfl T.g__law_size T.F__law_size.kp T.b__law_size .nil pass0 (pa_cons (pv 0) (pa_cons pe_int pa_nil))))
      (C8.pss_cut (ps_if (pt_cmpR op_eq (pe_call G__law_draw (hr.mono (by decide)) rfl T.g__law_draw T.F__law_draw.kp T.b__law_draw .nil pass0 (pa_cons (pv 0) (pa_cons pe_int pa_nil))) pe_int (nomark _))
        (pss_one (ps_set (i := 3) sc__law_solved_right.nd rfl (Or.inl rfl) (pe_op op_mulW (pv 1) (pe_op op_sub (pe_call G__law_size (hr.mono (by decide)) rfl T.g__law_size T.F__law_size.kp T.b__law_size .nil pass0 (pa_cons (pv 0) (pa_cons pe_int pa_nil))) pe_int))))
        pss_nil)
      (C8.pss_cut (ps_if (pt_cmpR op_eq (pe_call G__law_draw (hr.mono (by decide)) rfl T.g__law_draw T.F__law_draw.kp T.b__law_draw .nil pass0 (pa_cons (pv 0) (pa_cons pe_int pa_nil))) pe_int (nomark _))
        (pss_one (ps_set (i := 3) sc__law_solved_right.nd rfl (Or.inl rfl) (pe_un un_neg (pv 3))))
        pss_nil)
      (pss_cons (ps_set (i := 4) sc__law_solved_right.nd rfl (Or.inl rfl) (pe_call G_solve_one (hr.mono (by decide)) rfl T.g_solve_one T.F_solve_one.kp T.b_solve_one .nil pass0 (pa_cons (pv 1) (pa_cons (pv 2) (pa_cons (pv 3) pa_nil)))))
      (pss_cons (ps_set (i := 5) sc__law_solved_right.nd rfl (Or.inl rfl) (pe_call G__law_shared (hr.mono (by decide)) rfl T.g__law_shared T.F__law_shared.kp T.b__law_shared .nil pass0 (pa_cons (pv 1) (pa_cons (pv 2) pa_nil))))
      (pss_cons (ps_if (pt_not (pt_val (pe_call G__law_fits (hr.mono (by decide)) rfl T.g__law_fits T.F__law_fits.kp T.b__law_fits .nil pass0 (pa_cons (pv 3) (pa_cons (pv 5) pa_nil)))))
        (pss_one (ps_ret (pe_cmpR op_isN (pv 4) pe_non (nomark _))))
        pss_nil)
      (pss_cons (ps_if (PW.pt (pw_or (pt_cmpR op_isN (pv 4) pe_non (nomark _)) (pw_or (pt_not (pt_val (pe_call G__law_is_progression (hr.mono (by decide)) rfl T.g__law_is_progression T.F__law_is_progression.kp T.b__law_is_progression .nil pass0 (pa_cons (pv 4) pa_nil)))) (pw_or1 (pt_not (pt_val (pe_call G__law_fits (hr.mono (by decide)) rfl T.g__law_fits T.F__law_fits.kp T.b__law_fits .nil pass0 (pa_cons (pe_op op_sub (pe_op op_mulW (pv 1) (pe_ix (xK_tup (K := K) rfl) (pv 4) pe_int (fun _ _ => rfl))) (pv 3)) (pa_cons (pv 2) pa_nil)))))))))
        (pss_one (ps_ret pe_bl))
        pss_nil)
      (pss_cons (ps_if (pt_cmpR op_eq (pv 5) pe_int (nomark _))
        (pss_one (ps_ret (pe_cmpR (oK_eqD (K := K) rfl hr.units) (pv 4) (pe_tup (pa_cons pe_int (pa_cons pe_int pa_nil))) (nomark _))))
        pss_nil)
      (pss_one (ps_ret (pe_cmpR op_eq (pe_ix (xK_tup (K := K) rfl) (pv 4) pe_int (fun _ _ => rfl)) (pe_op op_fdivW (pv 2) (pv 5)) (nomark _))))))))))))))), ?_⟩
    walk_at "st"
    refine ⟨_, rfl, a, 1000000000, rfl, hs, by decide, by decide, fun c0 H1 c00 c01 k1 s1 => ?_⟩
    refine cutK (fun σ H' => ∃ c : Int, c.natAbs < 1000000000 ∧ σ = [some (.ref a), some (.int c), none, none, none, none] ∧ Kp [a] H H' ∧ Src H' a) ?_ ?_
    · walk_at "st"
      refine ⟨_, rfl, a, 3, rfl, s1, by decide, by decide, fun _ H2 _ _ k2 s2 => ⟨rfl, _, rfl, ?_⟩⟩
      refine ite2 (fun _ => ?_) (fun _ => ?_)
      · walk_at "st"
        exact ⟨_, rfl, _, rfl, -c0, by omega, rfl, k1.trans k2, s2⟩
      · walk_at "st"
        exact ⟨c0, by omega, rfl, k1.trans k2, s2⟩
    rintro σ H2 ⟨c, bc, rfl, k2, s2⟩
    walk_at "st"
    refine ⟨_, rfl, a, 1000000000, rfl, s2, by decide, by decide, fun m0 H3 m00 m01 k3 s3 => ?_⟩
    obtain ⟨m, rfl⟩ := Int.eq_ofNat_of_zero_le m00
    walk_at "st"
    refine ⟨_, rfl, a, 1000000000, rfl, s3, by decide, by decide, fun r0 H4 r00 r01 k4 s4 => ?_⟩
    refine cutK (fun σ H' => ∃ r : Int, r.natAbs < 2 ^ 200 ∧ σ = [some (.ref a), some (.int c), some (.int (m : Int)), some (.int r), none, none] ∧ Kp [a] H H' ∧ Src H' a) ?_ ?_
    · walk_at "st"
      refine ⟨_, rfl, a, 2, rfl, s4, by decide, by decide, fun _ H5 _ _ k5 s5 => ⟨rfl, _, rfl, ?_⟩⟩
      have k5' := ((k2.trans k3).trans k4).trans k5
      refine ite2 (fun _ => ?_) (fun _ => ?_)
      · walk_at "st"
        refine ⟨_, rfl, _, rfl, a, 1000, rfl, s5, by decide, by decide, fun x H6 x0 x1 k6 s6 => ⟨_, _, rfl, rfl, _, _, rfl, rfl, w300 (by omega) (by omega), ?_⟩⟩
        refine ⟨_, ?_, rfl, k5'.trans k6, s6⟩
        have h1 : (c * (x - 6)).natAbs = c.natAbs * (x - 6).natAbs := Int.natAbs_mul _ _
        have h2 : c.natAbs * (x - 6).natAbs ≤ 1000000000 * 1000 := Nat.mul_le_mul (by omega) (by omega)
        have h3 : (c * (x - 6)).natAbs < 2 ^ 200 := by omega
        exact h3
      · walk_at "st"
        exact ⟨r0, by omega, rfl, k5', s5⟩
    rintro σ H5 ⟨r1, br1, rfl, k5, s5⟩
    refine cutK (fun σ H' => ∃ r : Int, r.natAbs < 2 ^ 200 ∧ σ = [some (.ref a), some (.int c), some (.int (m : Int)), some (.int r), none, none] ∧ Kp [a] H H' ∧ Src H' a) ?_ ?_
    · walk_at "st"
      refine ⟨_, rfl, a, 3, rfl, s5, by decide, by decide, fun _ H6 _ _ k6 s6 => ⟨rfl, _, rfl, ?_⟩⟩
      refine ite2 (fun _ => ?_) (fun _ => ?_)
      · walk_at "st"
        exact ⟨_, rfl, _, rfl, -r1, by omega, rfl, k5.trans k6, s6⟩
      · walk_at "st"
        exact ⟨r1, by omega, rfl, k5.trans k6, s6⟩
    rintro σ H6 ⟨r, br, rfl, k6, s6⟩
    walk_at "st"
    have eG : Nat.gcd c.natAbs ((m : Int).natAbs) = gOf c m := rfl
    refine ⟨_, rfl, _, rfl, _, rfl, c, m, r, rfl, by omega, by omega, by omega, fun _ => by omega, fun hn => ?_, fun p R H7 hy hd hR bR k7 hp => ?_⟩
    · walk_at "st"
      refine ⟨_, rfl, _, rfl, c, m, rfl, by omega, by omega, ?_⟩
      rw [eG]
      walk_at "st"
      refine ⟨_, rfl, _, rfl, r, gOf c m, rfl, _, rfl, ?_⟩
      rw [decide_eq_false hn]
      refine iteT ?_
      walk_at "st"
      exact ⟨_, rfl, rfl, asB (q H6 k6 s6) (by simp)⟩
    · walk_at "st"
      refine ⟨_, rfl, _, rfl, c, m, rfl, by omega, by omega, ?_⟩
      rw [eG]
      walk_at "st"
      refine ⟨_, rfl, _, rfl, r, gOf c m, rfl, _, rfl, ?_⟩
      rw [decide_eq_true hy]
      refine iteF ?_
      have hq : SqT K H7 p [.int (mOf c m : Nat), .int R] := hp.sq
      walk_at "st"
      refine ⟨_, rfl, rfl, _, rfl, ?_⟩
      refine iteF ?_
      refine ⟨_, rfl, p, _, _, rfl, hp, hR, _, rfl, ?_⟩
      refine iteF ?_
      have b2 : R.natAbs < 2 ^ 1000 := by omega
      refine ⟨_, rfl, _, rfl, _, _, _, _, rfl, rfl, hq, rfl, _, _, rfl, rfl, w300 (by omega) b2, _, rfl, _, _, rfl, rfl, _, rfl, _, m, rfl, _, rfl, ?_⟩
      rw [decide_eq_true hd]
      refine iteF ?_
      walk_at "if"
      · intro z
        have eg : gOf c m = 0 := by simpa using z
        have hM : mOf c m = 1 := by unfold mOf; rw [if_pos eg]
        have hR0 : R = 0 := by rw [hM] at hR; omega
        walk_at "st"
        refine ⟨_, rfl, sz (by simp), fun t ht => ⟨.tuple [.int (mOf c m : Nat), .int R], .tuple [.int 1, .int 0], .tup (hp.kp (Kp.new (A := []) ht)).sq (.cons (.int _) (.cons (.int _) .nil)), .tup (SqT.of upd_same) (.cons (.int _) (.cons (.int _) .nil)), shaped_of rfl (by simp [PyData.depth, PyData.depthAll]), shaped_of rfl (by simp [PyData.depth, PyData.depthAll]), ?_⟩⟩
        refine asB (q _ ((k6.trans (Kp.nil k7)).trans (Kp.new ht)) ((s6.kp k7 List.not_mem_nil).kp (Kp.new (A := []) ht) List.not_mem_nil)) ?_
        rw [hM, hR0]; rfl
      · intro z
        have eg : gOf c m ≠ 0 := by simpa using z
        have hM : mOf c m = m / gOf c m := by unfold mOf; rw [if_neg eg]
        have bg : gOf c m < 2 ^ 300 := by
          rcases Nat.eq_zero_or_pos m with k | k
          · subst k
            have h3 : gOf c 0 = c.natAbs := Nat.gcd_zero_right _
            omega
          · have h3 : gOf c m ≤ m := Nat.le_of_dvd k (Nat.gcd_dvd_right c.natAbs m)
            omega
        walk_at "st"
        refine ⟨_, rfl, _, _, _, _, rfl, rfl, hq, rfl, _, rfl, _, rfl, _, _, rfl, rfl, d300 (by omega) (by omega), rfl, ?_⟩
        refine asB (q _ (k6.trans (Kp.nil k7)) (s6.kp k7 List.not_mem_nil)) ?_
        have es : (m : Int) / ((gOf c m : Nat) : Int) = ((m / gOf c m : Nat) : Int) := (Int.natCast_ediv _ _).symm
        show true = decide (V.int ((mOf c m : Nat) : Int) = V.int ((m : Int) / ((gOf c m : Nat) : Int)))
        rw [es, hM]; simp
theorem fit_rest {m : Nat} {n r : Int} : decide (pRest m n = pRest m r) = decide ((m : Int) ∣ n - r) := by
  rw [decide_eq_decide]
  unfold pRest
  by_cases h : m = 0
  · rw [if_pos h, if_pos h]
    subst h
    constructor
    · intro e; exact ⟨0, by omega⟩
    · rintro ⟨t, ht⟩; simp at ht; omega
  · rw [if_neg h, if_neg h]
    rw [Int.emod_eq_emod_iff_emod_sub_eq_zero, Int.dvd_iff_emod_eq_zero]
theorem prest_idem {m : Nat} {r : Int} : (m : Int) ∣ r - pRest m r := by
  unfold pRest
  split
  · exact ⟨0, by omega⟩
  · exact Int.dvd_self_sub_emod
theorem prest_norm {m : Nat} {r : Int} : m = 0 ∨ 0 ≤ pRest m r ∧ pRest m r < m := by
  unfold pRest
  by_cases h : m = 0
  · exact .inl h
  · rw [if_neg h]
    exact .inr ⟨Int.emod_nonneg _ (by omega), Int.emod_lt_of_pos _ (by omega)⟩
def sp__law_formed_right (K : PySem.W.Frag) : Sp := fun vs H Q _ => ∃ (a : Addr), vs = [.ref a] ∧ Src H a ∧ ∀ H', Kp [a] H H' → Q (.bl true) H'
theorem ok__law_formed_right (T : Txt K mg A D) : FnOk P w K mg base CX0 3 (A 15) (D 15) ["_law_source_here"] (sp__law_formed_right K) := by
  refine T.F__law_formed_right.ok sc__law_formed_right (fun vs H Q E h => ?_) (fun cdv A' outer s H vs Q E hr h => ?_)
  · obtain ⟨a, rfl, hs, q⟩ := h
    rfl
  · obtain ⟨a, rfl, hs, q⟩ := h
    have hu := hu_of hr
    have G__law_size : FnOk P w K mg base CX0 2 (A 10) (D 10) ["_law_source_here", "_law_most"] (sp__law_size K) := ok__law_size T
    have G_progression : FnOk P w K mg base CX0 1 (A 2) (D 2) ["modulus", "rest"] (sp_progression K) := ok_progression T
    have G_is_in : FnOk P w K mg base CX0 2 (A 3) (D 3) ["number", "steps"] (sp_is_in K) := ok_is_in T
    have G__law_is_progression : FnOk P w K mg base CX0 1 (A 13) (D 13) ["_law_actual"] (sp__law_is_progression K) := ok__law_is_progression T
    have G__law_fits : FnOk P w K mg base CX0 1 (A 12) (D 12) ["_law_number", "_law_modulus"] (sp__law_fits K) := ok__law_fits T
    refine ⟨_, (pss_cons (ps_set (i := 1) sc__law_formed_right.nd rfl (Or.inl rfl) (pe_call G__law_size (hr.mono (by decide)) rfl T.g__law_size T.F__law_size.kp T.b__law_size .nil pass0 (pa_cons (pv 0) (pa_cons pe_int pa_nil))))
      (pss_cons (ps_set (i := 2) sc__law_formed_right.nd rfl (Or.inl rfl) (pe_op op_sub (pe_call G__law_size (hr.mono (by decide)) rfl T.g__law_size T.F__law_size.kp T.b__law_size .nil pass0 (pa_cons (pv 0) (pa_cons pe_int pa_nil))) (pe_call G__law_size (hr.mono (by decide)) rfl T.g__law_size T.F__law_size.kp T.b__law_size .nil pass0 (pa_cons (pv 0) (pa_cons pe_int pa_nil)))))
      (pss_cons (ps_set (i := 3) sc__law_formed_right.nd rfl (Or.inl rfl) (pe_call G_progression (hr.mono (by decide)) rfl T.g_progression T.F_progression.kp T.b_progression .nil pass0 (pa_cons (pv 1) (pa_cons (pv 2) pa_nil))))
      (pss_cons (ps_if (PW.pt (pw_or (pt_not (pt_val (pe_call G__law_is_progression (hr.mono (by decide)) rfl T.g__law_is_progression T.F__law_is_progression.kp T.b__law_is_progression .nil pass0 (pa_cons (pv 3) pa_nil)))) (pw_or (pt_cmpR op_ne (pe_ix (xK_tup (K := K) rfl) (pv 3) pe_int (fun _ _ => rfl)) (pv 1) (nomark _)) (pw_or1 (pt_not (pt_val (pe_call G__law_fits (hr.mono (by decide)) rfl T.g__law_fits T.F__law_fits.kp T.b__law_fits .nil pass0 (pa_cons (pe_op op_sub (pv 2) (pe_ix (xK_tup (K := K) rfl) (pv 3) pe_int (fun _ _ => rfl))) (pa_cons (pv 1) pa_nil)))))))))
        (pss_one (ps_ret pe_bl))
        pss_nil)
      (pss_cons (ps_for PassesOwn.never rfl (iK_list (K := K) rfl (pe_lst (pa_cons (pv 2) (pa_cons (pe_ix (xK_tup (K := K) rfl) (pv 3) pe_int (fun _ _ => rfl)) (pa_cons (pe_op op_add (pv 2) (pv 1)) (pa_cons (pe_op op_add (pv 2) pe_int) (pa_cons (pe_op op_sub (pv 2) (pe_op op_mulW pe_int (pv 1))) (pa_cons (pe_op op_sub (pe_ix (xK_tup (K := K) rfl) (pv 3) pe_int (fun _ _ => rfl)) pe_int) (pa_cons pe_int (pa_cons (pe_un un_neg (pv 2)) pa_nil)))))))))) (pg_name (i := 4) sc__law_formed_right.nd rfl (Or.inl rfl))
        (pss_cons (ps_set (i := 5) sc__law_formed_right.nd rfl (Or.inl rfl) (pe_call G_is_in (hr.mono (by decide)) rfl T.g_is_in T.F_is_in.kp T.b_is_in .nil pass0 (pa_cons (pv 4) (pa_cons (pv 3) pa_nil))))
        (pss_one (ps_if (PW.pt (pw_or (pt_not (pt_val (pe_callB (id := "isinstance") (cK_isi (K := K) rfl) (by rfl) T.z_isinstance (by decide +kernel) (pa_cons (pv 5) (pa_cons (pe_bltn (v := .ty "bool") (u := .type "bool") (by rfl) T.z_bool (by decide +kernel) rfl) pa_nil))))) (pw_or1 (pt_cmpR op_ne (pv 5) (pe_call G__law_fits (hr.mono (by decide)) rfl T.g__law_fits T.F__law_fits.kp T.b__law_fits .nil pass0 (pa_cons (pe_op op_sub (pv 4) (pv 2)) (pa_cons (pv 1) pa_nil))) (nomark _)))))
          (pss_one (ps_ret pe_bl))
          pss_nil))))
      (pss_one (ps_ret pe_bl))))))), ?_⟩
    walk_at "st"
    refine ⟨_, rfl, a, 1000000, rfl, hs, by decide, by decide, fun m0 H1 m00 m01 k1 s1 => ?_⟩
    obtain ⟨m, rfl⟩ := Int.eq_ofNat_of_zero_le m00
    walk_at "st"
    refine ⟨_, rfl, a, 1000000000, rfl, s1, by decide, by decide, fun x H2 x0 x1 k2 s2 => ⟨_, rfl, a, 1000000000, rfl, s2, by decide, by decide, fun y H3 y0 y1 k3 s3 => ⟨_, _, rfl, rfl, ?_⟩⟩⟩
    walk_at "st"
    refine ⟨_, rfl, _, rfl, m, x - y, rfl, fun p H4 k4 hp => ?_⟩
    have hq : SqT K H4 p [.int (m : Nat), .int (pRest m (x - y))] := hp.sq
    refine seq_ifK0 ?_
    refine ⟨_, rfl, p, m, _, rfl, hp, prest_norm, _, rfl, ?_⟩
    refine iteF ?_
    refine ⟨_, rfl, _, _, _, _, rfl, rfl, hq, rfl, _, rfl, rfl, _, rfl, ?_⟩
    refine ite2 (fun c => by simp at c) (fun _ => ?_)
    refine ⟨_, rfl, _, rfl, _, _, _, _, rfl, rfl, hq, rfl, _, _, rfl, rfl, _, rfl, x - y - pRest m (x - y), m, rfl, _, rfl, ?_⟩
    rw [decide_eq_true prest_idem]
    refine iteF ?_
    refine seq_forK ?_
    refine ⟨_, rfl, _, rfl, _, _, _, _, rfl, rfl, hq, rfl, _, rfl, _, rfl, _, _, rfl, rfl, _, rfl, _, _, rfl, rfl, _, rfl, _, rfl, _, _, rfl, rfl, w300 (by decide) (by omega), _, _, rfl, rfl, _, rfl, _, _, _, _, rfl, rfl, hq, rfl, _, _, rfl, rfl, _, rfl, _, rfl, sz (by simp), fun L hL => ?_⟩
    have hLL := SqL.of (K := K) (upd_same (H := H4) (a := L) (o := .lst ([x - y, pRest m (x - y), x - y + m, x - y + 1, x - y - 2 * m, pRest m (x - y) - 1, 0, -(x - y)].map V.int)))
    refine ⟨_, rfl, ⟨_, hLL⟩, for_seq walk_list (fun i σ H' => Kp [] H4 H' ∧ H' L = some (.lst ([x - y, pRest m (x - y), x - y + m, x - y + 1, x - y - 2 * m, pRest m (x - y) - 1, 0, -(x - y)].map V.int)) ∧ ∃ (v4 v5 : Option V), σ = [some (.ref a), some (.int (m : Int)), some (.int (x - y)), some (.ref p), v4, v5])
      ⟨Kp.new hL, upd_same, _, _, rfl⟩ (fun i σ H' _ z => SqL.of z.2.1) ?_ ?_⟩
    · rintro i v σ H5 H6 hi ⟨k6, e6, v4, v5, rfl⟩ ⟨rfl, hv⟩
      rw [List.getElem?_map] at hv
      obtain ⟨n, hn, rfl⟩ := Option.map_eq_some_iff.mp hv
      have hp6 : Pr H6 p m (pRest m (x - y)) := hp.kp k6
      walk_at "st"
      refine ⟨_, rfl, _, rfl, n, p, m, _, rfl, hp6, fun H7 k7 => ?_⟩
      walk_at "st"
      refine ⟨_, rfl, _, _, _, _, true, rfl, .ty "bool", .base (.bl _), kit_ty (by decide +kernel), _, rfl, ?_⟩
      refine iteF ?_
      refine ⟨_, rfl, _, rfl, _, rfl, _, _, rfl, rfl, _, rfl, n - (x - y), m, rfl, rfl, _, rfl, ?_⟩
      rw [fit_rest]
      refine ite2 (fun c => by simp at c) (fun _ => ?_)
      walk_at "st"
      exact ⟨k6.trans k7, k7.get e6 (.inl List.not_mem_nil), _, _, rfl⟩
    · rintro σ H5 ⟨k5, e5, v4, v5, rfl⟩
      walk_at "st"
      exact q _ ((((k1.trans k2).trans k3).trans (Kp.nil k4)).trans (Kp.nil k5))
def nrm (p : Nat × Int) : Prop := p.1 = 0 ∨ 0 ≤ p.2 ∧ p.2 < p.1
/-- a pair as an item -/
def Pi (H : Hp) (v : V) (p : Nat × Int) : Prop := ∃ t, v = .ref t ∧ Pr H t p.1 p.2
theorem Pi.kp {A : List Addr} {H H' : Hp} (k : Kp A H H') {v : V} {p : Nat × Int} (h : Pi H v p) : Pi H' v p := by
  obtain ⟨t, rfl, e⟩ := h
  exact ⟨t, rfl, e.kp k⟩
def okP (p : Nat × Int) : Prop := p.1 < 1000000 ∧ p.2.natAbs < 10000000
def sp__law_progressions (K : PySem.W.Frag) : Sp := fun vs H Q _ => ∃ (a : Addr), vs = [.ref a] ∧ Src H a ∧
  ∀ (L : Addr) (ls : List V) (ps : List (Nat × Int)) H', H L = none → H' L = some (.lst ls) → All2 (Pi H') ls ps → ps.length ≤ 4 → (∀ p ∈ ps, okP p) → Kp [a] H H' → Q (.ref L) H'
theorem ok__law_progressions (T : Txt K mg A D) : FnOk P w K mg base CX0 3 (A 16) (D 16) ["_law_source_here"] (sp__law_progressions K) := by
  refine T.F__law_progressions.ok sc__law_progressions (fun vs H Q E h => ?_) (fun cdv A' outer s H vs Q E hr h => ?_)
  · obtain ⟨a, rfl, hs, q⟩ := h
    rfl
  · obtain ⟨a, rfl, hs, q⟩ := h
    have hu := hu_of hr
    have G__law_size : FnOk P w K mg base CX0 2 (A 10) (D 10) ["_law_source_here", "_law_most"] (sp__law_size K) := ok__law_size T
    have G__law_draw : FnOk P w K mg base CX0 1 (A 9) (D 9) ["_law_source_here", "_law_limit"] (sp__law_draw K) := ok__law_draw T
    refine ⟨_, (pss_cons (ps_set (i := 1) sc__law_progressions.nd rfl (Or.inl rfl) (pe_op op_sub (pe_call G__law_size (hr.mono (by decide)) rfl T.g__law_size T.F__law_size.kp T.b__law_size .nil pass0 (pa_cons (pv 0) (pa_cons pe_int pa_nil))) (pe_call G__law_size (hr.mono (by decide)) rfl T.g__law_size T.F__law_size.kp T.b__law_size .nil pass0 (pa_cons (pv 0) (pa_cons pe_int pa_nil)))))
      (pss_cons (ps_set (i := 2) sc__law_progressions.nd rfl (Or.inl rfl) (pe_call G__law_size (hr.mono (by decide)) rfl T.g__law_size T.F__law_size.kp T.b__law_size .nil pass0 (pa_cons (pv 0) (pa_cons pe_int pa_nil))))
      (pss_cons (ps_set (i := 3) sc__law_progressions.nd rfl (Or.inl rfl) (pe_lst pa_nil))
      (pss_cons (ps_for PassesOwn.never rfl (pi_range1 rfl T.z_range (pa_cons (pe_call G__law_draw (hr.mono (by decide)) rfl T.g__law_draw T.F__law_draw.kp T.b__law_draw .nil pass0 (pa_cons (pv 0) (pa_cons pe_int pa_nil))) pa_nil)) (pg_name (i := 4) sc__law_progressions.nd rfl (Or.inl rfl))
        (pss_cons (ps_set (i := 5) sc__law_progressions.nd rfl (Or.inl rfl) (pe_call G__law_size (hr.mono (by decide)) rfl T.g__law_size T.F__law_size.kp T.b__law_size .nil pass0 (pa_cons (pv 0) (pa_cons pe_int pa_nil))))
        (C8.pss_cut (ps_if (pt_cmpR op_eq (pe_call G__law_draw (hr.mono (by decide)) rfl T.g__law_draw T.F__law_draw.kp T.b__law_draw .nil pass0 (pa_cons (pv 0) (pa_cons pe_int pa_nil))) pe_int (nomark _))
          (pss_one (ps_set (i := 5) sc__law_progressions.nd rfl (Or.inl rfl) (pv 2)))
          pss_nil)
        (pss_cons (ps_set (i := 6) sc__law_progressions.nd rfl (Or.inl rfl) (pv 1))
        (C8.pss_cut (ps_if (pt_cmpR op_eq (pe_call G__law_draw (hr.mono (by decide)) rfl T.g__law_draw T.F__law_draw.kp T.b__law_draw .nil pass0 (pa_cons (pv 0) (pa_cons pe_int pa_nil))) pe_int (nomark _))
          (pss_one (ps_set (i := 6) sc__law_progressions.nd rfl (Or.inl rfl) (pe_op op_sub (pe_op op_add (pv 1) (pe_call G__law_draw (hr.mono (by decide)) rfl T.g__law_draw T.F__law_draw.kp T.b__law_draw .nil pass0 (pa_cons (pv 0) (pa_cons pe_int pa_nil)))) pe_int)))
          pss_nil)
        (C8.pss_cut (ps_if (pt_cmpR op_gt (pv 5) pe_int (nomark _))
          (pss_one (ps_set (i := 6) sc__law_progressions.nd rfl (Or.inl rfl) (pe_op op_mod (pe_callTy (T := "int") call_int1 (by rfl) T.z_int (by decide +kernel) (pa_cons (pv 6) pa_nil)) (pv 5))))
          pss_nil)
        (pss_one (ps_expr (pe_bm PySem.F.plainAttrs_list PySem.F.slot_list_append PySem.F.type_list_append mt_append (pv 3) (pa_cons (pe_tup (pa_cons (pv 5) (pa_cons (pv 6) pa_nil))) pa_nil))))))))))
      (pss_one (ps_ret (pv 3))))))), ?_⟩
    walk_at "st"
    refine ⟨_, rfl, a, 1000000, rfl, hs, by decide, by decide, fun x H1 x0 x1 k1 s1 => ⟨_, rfl, a, 1000000, rfl, s1, by decide, by decide, fun y H2 y0 y1 k2 s2 => ⟨_, _, rfl, rfl, ?_⟩⟩⟩
    walk_at "st"
    refine ⟨_, rfl, a, 1000, rfl, s2, by decide, by decide, fun sm H3 sm0 sm1 k3 s3 => ?_⟩
    have k3' := (k1.trans k2).trans k3
    walk_at "st"
    refine ⟨sz (by simp), fun L hL => ?_⟩
    have La : L ≠ a := fun e => by subst e; obtain ⟨_, _, e⟩ := s3; rw [hL] at e; cases e
    have niL : L ∉ [a] := by simpa using La
    have nia : a ∉ [L] := by simpa using Ne.symm La
    have hL0 : H L = none := by
      cases e : H L with
      | none => rfl
      | some o => exact absurd (k3' _ _ e (.inl niL)) (by rw [hL]; exact fun h => nomatch h)
    refine seq_forK ?_
    refine ⟨_, rfl, a, 5, rfl, s3.kp (Kp.new (A := [L]) hL) nia, by decide, by decide, fun cnt H4 c0 c1 k4 s4 => ?_⟩
    refine ⟨_, rfl, by omega, by omega, for_seq walk_range (fun i σ H' => ∃ (ls : List V) (ps : List (Nat × Int)) (v4 v5 v6 : Option V), σ = [some (.ref a), some (.int (x - y)), some (.int sm), some (.ref L), v4, v5, v6] ∧ H' L = some (.lst ls) ∧ All2 (Pi H') ls ps ∧ ps.length = i ∧ (∀ p ∈ ps, okP p) ∧ Kp [a] H H' ∧ Src H' a)
      ⟨[], [], _, _, _, rfl, k4.get upd_same (.inl niL), trivial, rfl, (fun p h => nomatch h), (k3'.trans (Kp.new hL)).trans k4, s4⟩ (fun _ _ _ _ _ => trivial) ?_ ?_⟩
    · rintro i v σ H5 H6 hi ⟨ls, ps, v4, v5, v6, rfl, e6, hall, hl, hok, k6, s6⟩ ⟨rfl, rfl⟩
      walk_at "st"
      refine ⟨_, rfl, a, 1000000, rfl, s6, by decide, by decide, fun m0 H7 m00 m01 k7 s7 => ?_⟩
      obtain ⟨m, rfl⟩ := Int.eq_ofNat_of_zero_le m00
      obtain ⟨sm', rfl⟩ := Int.eq_ofNat_of_zero_le sm0
      refine cutK (fun σ H' => ∃ (m : Nat) (v6 : Option V), m < 1000000 ∧ σ = [some (.ref a), some (.int (x - y)), some (.int (sm' : Int)), some (.ref L), some (.int (0 + (i : Int))), some (.int (m : Int)), v6] ∧ Kp [a] H6 H' ∧ Src H' a) ?_ ?_
      · walk_at "st"
        refine ⟨_, rfl, a, 4, rfl, s7, by decide, by decide, fun _ H8 _ _ k8 s8 => ⟨rfl, _, rfl, ?_⟩⟩
        refine ite2 (fun _ => ?_) (fun _ => ?_)
        · walk_at "st"
          exact ⟨_, rfl, sm', _, by omega, rfl, k7.trans k8, s8⟩
        · walk_at "st"
          exact ⟨m, _, by omega, rfl, k7.trans k8, s8⟩
      rintro σ H8 ⟨m1, v6', hm1, rfl, k8, s8⟩
      walk_at "st"
      refine ⟨_, rfl, ?_⟩
      refine cutK (fun σ H' => ∃ (r : Int), r.natAbs < 10000000 ∧ σ = [some (.ref a), some (.int (x - y)), some (.int (sm' : Int)), some (.ref L), some (.int (0 + (i : Int))), some (.int (m1 : Int)), some (.int r)] ∧ Kp [a] H6 H' ∧ Src H' a) ?_ ?_
      · walk_at "st"
        refine ⟨_, rfl, a, 8, rfl, s8, by decide, by decide, fun _ H9 _ _ k9 s9 => ⟨rfl, _, rfl, ?_⟩⟩
        refine ite2 (fun _ => ?_) (fun _ => ?_)
        · walk_at "st"
          refine ⟨_, rfl, _, rfl, a, 13, rfl, s9, by decide, by decide, fun z H10 z0 z1 k10 s10 => ⟨_, _, rfl, rfl, _, _, rfl, rfl, ?_⟩⟩
          exact ⟨x - y + z - 6, by omega, rfl, (k8.trans k9).trans k10, s10⟩
        · walk_at "st"
          exact ⟨x - y, by omega, rfl, k8.trans k9, s9⟩
      rintro σ H9 ⟨r1, hr1, rfl, k9, s9⟩
      refine cutK (fun σ H' => ∃ (r : Int), r.natAbs < 10000000 ∧ σ = [some (.ref a), some (.int (x - y)), some (.int (sm' : Int)), some (.ref L), some (.int (0 + (i : Int))), some (.int (m1 : Int)), some (.int r)] ∧ H' = H9) ?_ ?_
      · walk_at "if"
        · intro c
          have mp : 0 < (m1 : Int) := by simpa using c
          walk_at "st"
          refine ⟨_, rfl, .inl ⟨_, rfl, _, rfl, _, _, rfl, rfl, mp, ?_⟩⟩
          have l0 := Int.emod_nonneg r1 (by omega : (m1 : Int) ≠ 0)
          have l1 := Int.emod_lt_of_pos r1 mp
          exact ⟨r1 % (m1 : Int), by omega, rfl, rfl⟩
        · intro _
          exact ⟨r1, hr1, rfl, rfl⟩
      rintro σ H10 ⟨r, hr, rfl, rfl⟩
      have e10 : H10 L = some (.lst ls) := k9.get e6 (.inl niL)
      walk_at "st"
      refine ⟨_, rfl, .inl ⟨rfl, _, SqL.of e10⟩, _, rfl, _, rfl, sz (by simp), fun t ht => ?_⟩
      have Lt : L ≠ t := ne_of_none e10 ht
      have e11 : upd H10 t (.tup [.int (m1 : Int), .int r]) L = some (.lst ls) := by rw [upd_ne Lt]; exact e10
      refine ⟨L, _, _, rfl, rfl, e11, szl (by rw [hall.length]; omega), ?_⟩
      have kk : ∀ o, Kp [L, a] H6 (upd (upd H10 t (.tup [.int (m1 : Int), .int r])) L o) := fun o => ((k9.sub (by simp)).trans (Kp.new ht)).trans (Kp.own e11 rfl (by simp))
      refine ⟨ls ++ [.ref t], ps ++ [(m1, r)], _, _, _, rfl, upd_same, All2.snoc (All2.imp (fun v n h => Pi.kp (kk _) h) hall) ⟨t, rfl, ?_⟩, by simp [hl], fun p hp => ?_, ((k6.trans k9).trans (Kp.new ht)).put hL0, (s9.kp (Kp.new (A := [L]) ht) nia).kp (Kp.own (A := [L]) e11 rfl (by simp)) nia⟩
      · unfold Pr
        rw [upd_ne (Ne.symm Lt)]; exact upd_same
      · rcases List.mem_append.mp hp with h | h
        · exact hok p h
        · rw [List.mem_singleton.mp h]; exact ⟨hm1, hr⟩
    · rintro σ H5 ⟨ls, ps, v4, v5, v6, rfl, e5, hall, hl, hok, k5, s5⟩
      walk_at "st"
      refine ⟨_, rfl, ?_⟩
      exact q L ls ps H5 hL0 e5 hall (by omega) hok k5
def agr (ps : List (Nat × Int)) : Prop := ∀ a ∈ ps, ∀ b ∈ ps, ((Nat.gcd a.1 b.1 : Nat) : Int) ∣ a.2 - b.2
theorem agr_of {ps : List (Nat × Int)} {x : Int} (h : ∀ p ∈ ps, (p.1 : Int) ∣ x - p.2) : agr ps := fun a ha b hb => by
  have h1 := gcd_dvdI (b := b.1) (h a ha)
  have h2 : ((Nat.gcd a.1 b.1 : Nat) : Int) ∣ x - b.2 := Int.dvd_trans (Int.natCast_dvd_natCast.mpr (Nat.gcd_dvd_right _ _)) (h b hb)
  have : a.2 - b.2 = (x - b.2) - (x - a.2) := by omega
  rw [this]; exact Int.dvd_sub h2 h1
/-- what meeting gives -/
def Met (ps : List (Nat × Int)) (v : V) (H : Hp) : Prop := (v = .non ∧ ¬ agr ps) ∨ ∃ (t : Addr) (R : Int), v = .ref t ∧ agr ps ∧ (∀ p ∈ ps, (p.1 : Int) ∣ R - p.2) ∧ (lcmL ps = 0 ∨ 0 ≤ R ∧ R < lcmL ps) ∧ Pr H t (lcmL ps) R
theorem lcm_step {M s : Nat} : M * mOf (M : Int) s = Nat.lcm M s := by
  unfold mOf gOf
  rw [Int.natAbs_natCast]
  by_cases h : Nat.gcd M s = 0
  · rw [if_pos h]
    have := Nat.eq_zero_of_gcd_eq_zero_left h
    subst this; simp
  · rw [if_neg h]
    show M * (s / Nat.gcd M s) = M * s / Nat.gcd M s
    rw [Nat.mul_div_assoc _ (Nat.gcd_dvd_right _ _)]
theorem lcm_le_mul (M s : Nat) : Nat.lcm M s ≤ M * s := Nat.div_le_self _ _
def sp_meet (K : PySem.W.Frag) : Sp := fun vs H Q _ => ∃ (p : Addr) (ls : List V) (ps : List (Nat × Int)), vs = [.ref p] ∧ SqT K H p ls ∧ All2 (Pi H) ls ps ∧ ps.length ≤ 4 ∧ (∀ q ∈ ps, okP q) ∧ ∀ v H', Met ps v H' → Kp [] H H' → Q v H'
theorem ok_meet (T : Txt K mg A D) : FnR P w K mg base CX0 3 (A 6) (star 0 (sp_meet K)) := by
  obtain ⟨oc0, od0, kV0, doc0, pm0, an0, cdv, ct0, osl0, e0, lk, hcd⟩ := T.F_meet.ex
  rw [e0] at lk
  refine StX.fn_star (ps := []) (pv := "progressions") (sp := sp_meet K) lk hcd sc_meet StX.cxUp_none (fun us rest hl => ?_) (fun A' outer s H vs Q E hr h => ?_)
  · match us, hl with | [], _ => cases rest <;> rfl
  · obtain ⟨p, ls, ps, rfl, hp, hall, hl, hok, q⟩ := h
    have hu := hu_of hr
    have G_progression : FnOk P w K mg base CX0 1 (A 2) (D 2) ["modulus", "rest"] (sp_progression K) := ok_progression T
    have G_solve_one : FnOk P w K mg base CX0 2 (A 5) (D 5) ["coefficient", "modulus", "rest"] (sp_solve_one K) := ok_solve_one T
    refine nox_ex ?_
    refine ⟨_, (pss_cons (ps_set (i := 1) sc_meet.nd rfl (Or.inl rfl) pe_int)
      (pss_cons (ps_set (i := 2) sc_meet.nd rfl (Or.inl rfl) pe_int)
      (pss_cons (ps_for PassesOwn.never rfl (iK_tup (K := K) rfl (pv 0)) (pg_tup rfl (pgs_cons (pg_name (i := 3) sc_meet.nd rfl (Or.inl rfl)) (pgs_cons (pg_name (i := 4) sc_meet.nd rfl (Or.inl rfl)) pgs_nil)))
        (pss_cons (ps_set (i := 5) sc_meet.nd rfl (Or.inl rfl) (pe_call G_solve_one (hr.mono (by decide)) rfl T.g_solve_one T.F_solve_one.kp T.b_solve_one .nil pass0 (pa_cons (pv 1) (pa_cons (pv 3) (pa_cons (pe_op op_sub (pv 4) (pv 2)) pa_nil)))))
        (pss_cons (ps_if (pt_cmpR op_isN (pv 5) pe_non (nomark _))
          (pss_one (ps_ret pe_non))
          pss_nil)
        (pss_cons (ps_set (i := 2) sc_meet.nd rfl (Or.inl rfl) (pe_op op_add (pv 2) (pe_op op_mulW (pv 1) (pe_ix (xK_tup (K := K) rfl) (pv 5) pe_int (fun _ _ => rfl)))))
        (pss_one (ps_set (i := 1) sc_meet.nd rfl (Or.inl rfl) (pe_op op_mulW (pv 1) (pe_ix (xK_tup (K := K) rfl) (pv 5) pe_int (fun _ _ => rfl)))))))))
      (pss_one (ps_ret (pe_call G_progression (hr.mono (by decide)) rfl T.g_progression T.F_progression.kp T.b_progression .nil pass0 (pa_cons (pv 1) (pa_cons (pv 2) pa_nil)))))))), ?_⟩
    walk_at "set"
    walk_at "set"
    refine seq_forK ?_
    refine ⟨_, rfl, _, rfl, ⟨_, hp⟩, for_seq walk_tup (fun i σ H' => ∃ (M : Nat) (x : Int) (v3 v4 v5 : Option V), σ = [some (.ref p), some (.int (M : Int)), some (.int x), v3, v4, v5] ∧ M = lcmL (ps.take i) ∧ (∀ q ∈ ps.take i, (q.1 : Int) ∣ x - q.2) ∧ M ≤ 1000000 ^ i ∧ x.natAbs ≤ 10000000 + i * 1000000 ^ 5 ∧ Kp [] H H')
      ⟨1, 0, _, _, _, rfl, rfl, (fun q h => nomatch h), by decide, by decide, Kp.refl⟩ (fun i σ H' _ z => by obtain ⟨_, _, _, _, _, _, _, _, _, _, k⟩ := z; exact k.sqT hp) ?_ ?_⟩
    · rintro i v σ H1 H2 hi ⟨M, x, v3, v4, v5, rfl, eM, hx, bM, bx, k2⟩ ⟨rfl, hv⟩
      have hi4 : i < 4 := by have := hall.length; omega
      obtain ⟨⟨s, o⟩, hs, t, rfl, ht⟩ := hall.at hv
      have hm : (s, o) ∈ ps := List.mem_of_getElem? hs
      obtain ⟨bs, bo⟩ := hok _ hm
      simp only at bs bo
      have et : ps.take (i + 1) = ps.take i ++ [(s, o)] := by rw [List.take_add_one, hs]; rfl
      have pw : ∀ j, j ≤ 5 → (1000000 : Nat) ^ j ≤ 1000000 ^ 5 := fun j hj => Nat.pow_le_pow_right (by decide) hj
      have bM5 := Nat.le_trans bM (pw i (by omega))
      refine ⟨t, _, rfl, (ht.kp k2).sq, rfl, _, _, rfl, _, _, rfl, rfl, ?_⟩
      walk_at "st"
      have i4 : i * 1000000 ^ 5 ≤ 4 * 1000000 ^ 5 := Nat.mul_le_mul_right _ (by omega)
      refine ⟨_, rfl, _, rfl, _, rfl, _, rfl, _, _, rfl, rfl, (M : Int), s, o - x, rfl, by omega, by omega, by omega, fun _ => by omega, fun hn => ?_, fun t' R H3 hy hd hR bR k3 h3 => ?_⟩
      · walk_at "if"
        · intro _
          walk_at "st"
          refine q .non H2 (.inl ⟨rfl, fun ha => hn ?_⟩) k2
          have := meets (s := s) (o := o) hx fun q hq => ha q (List.mem_of_mem_take hq) (s, o) hm
          rw [← eM] at this
          exact this
        · intro c
          simp at c
      · refine seq_if0 (b := false) (An.to (an_cmp (vl_var rfl) vl_c fun Q q => ⟨rfl, q⟩) (by simp)) (fun c => Bool.noConfusion c) (fun _ => ?_)
        have h3q : SqT K H3 t' [.int (mOf (M : Int) s : Nat), .int R] := h3.sq
        walk_at "st"
        refine ⟨_, rfl, _, rfl, _, rfl, _, _, _, _, rfl, rfl, h3q, rfl, _, _, rfl, rfl, w300 (by omega) (by omega), _, _, rfl, rfl, ?_⟩
        walk_at "st"
        have bmo : mOf (M : Int) s ≤ 1000000 := by
          unfold mOf
          split
          · omega
          · have := Nat.div_le_self s (gOf (M : Int) s); omega
        refine ⟨_, rfl, _, rfl, _, _, _, _, rfl, rfl, h3q, rfl, _, _, rfl, rfl, w300 (by omega) (by omega), ?_⟩
        have em : (M : Int) * ((mOf (M : Int) s : Nat) : Int) = ((Nat.lcm M s : Nat) : Int) := by rw [← Int.natCast_mul, lcm_step]
        refine ⟨Nat.lcm M s, x + M * R, _, _, _, by rw [← em]; rfl, by rw [et, lcmL_snoc, ← eM], fun q hq => ?_, ?_, ?_, k2.trans k3⟩
        · rw [et] at hq
          rcases List.mem_append.mp hq with h | h
          · have h1 := hx q h
            have h2 : (q.1 : Int) ∣ (M : Int) := by rw [eM]; exact Int.natCast_dvd_natCast.mpr (dvd_lcmL h)
            have : x + M * R - q.2 = (x - q.2) + M * R := by omega
            rw [this]
            exact Int.dvd_add h1 (Int.dvd_trans h2 (Int.dvd_mul_right _ _))
          · rw [List.mem_singleton.mp h]
            have : x + M * R - o = M * R - (o - x) := by omega
            show (s : Int) ∣ x + M * R - o
            rw [this]; exact hd
        · have h1 := lcm_le_mul M s
          have h2 : M * s ≤ 1000000 ^ i * 1000000 := Nat.mul_le_mul bM (by omega)
          rw [Nat.pow_succ]; omega
        · rcases hR with h0 | h0
          · have s0 : s = 0 := by
              have h1 : M * mOf (M : Int) s = 0 := by rw [h0]; simp
              rw [lcm_step] at h1
              unfold mOf at h0
              split at h0
              · cases h0
              · rename_i hg
                rcases Nat.eq_zero_or_pos s with k | k
                · exact k
                · have := Nat.div_pos (Nat.le_of_dvd k (Nat.gcd_dvd_right M s)) (Nat.pos_of_ne_zero hg)
                  unfold gOf at h0
                  rw [Int.natAbs_natCast] at h0
                  omega
            subst s0
            have hz : (M : Int) * R - (o - x) = 0 := by
              obtain ⟨z, hz⟩ := hd
              rw [hz]; simp
            have : x + M * R = o := by omega
            rw [this]; omega
          · have h1 : (M : Int) * R ≤ (M : Int) * 1000000 := Int.mul_le_mul_of_nonneg_left (by omega) (by omega)
            have h2 : 0 ≤ (M : Int) * R := Int.mul_nonneg (by omega) h0.1
            have h3 : M ≤ 1000000 ^ 4 := Nat.le_trans bM (Nat.pow_le_pow_right (by decide) (by omega))
            have : (i + 1) * 1000000 ^ 5 = i * 1000000 ^ 5 + 1000000 ^ 5 := by rw [Nat.succ_mul]
            omega
    · rintro σ H1 ⟨M, x, v3, v4, v5, rfl, eM, hx, bM, bx, k1⟩
      rw [hall.length, List.take_length] at eM hx
      walk_at "st"
      refine ⟨_, rfl, _, rfl, M, x, rfl, fun t H2 k2 h2 => ?_⟩
      have hsol : ∀ p ∈ ps, (p.1 : Int) ∣ pRest M x - p.2 := fun p hp => by
        have h1 := hx p hp
        have h2 : (p.1 : Int) ∣ x - pRest M x := Int.dvd_trans (by rw [eM]; exact Int.natCast_dvd_natCast.mpr (dvd_lcmL hp)) (prest_idem (m := M) (r := x))
        have : pRest M x - p.2 = (x - p.2) - (x - pRest M x) := by omega
        rw [this]; exact Int.dvd_sub h1 h2
      refine q _ _ (.inr ⟨t, pRest M x, rfl, agr_of hsol, hsol, ?_, ?_⟩) (k1.trans k2)
      · rw [← eM]; exact prest_norm
      · rw [← eM]; exact h2
def sp__law_met (K : PySem.W.Frag) : Sp := fun vs H Q _ => ∃ (p : Addr) (ls : List V) (ps : List (Nat × Int)), vs = [.ref p] ∧ H p = some (.lst ls) ∧ All2 (Pi H) ls ps ∧ ps.length ≤ 4 ∧ (∀ q ∈ ps, okP q) ∧ ∀ v H', Met ps v H' → Kp [] H H' → Q v H'
theorem ok__law_met (T : Txt K mg A D) : FnOk P w K mg base CX0 4 (A 17) (D 17) ["_law_steps"] (sp__law_met K) := by
  refine T.F__law_met.ok sc__law_met (fun vs H Q E h => ?_) (fun cdv A' outer s H vs Q E hr h => ?_)
  · obtain ⟨p, ls, ps, rfl, hp, hall, hl4, hok, q⟩ := h
    rfl
  · obtain ⟨p, ls, ps, rfl, hp, hall, hl4, hok, q⟩ := h
    have hu := hu_of hr
    have G_meet : FnR P w K mg base CX0 3 (A 6) (star 0 (sp_meet K)) := ok_meet T
    refine ⟨_, (pss_cons (ps_if (pt_cmpR op_eq (pe_callB (id := "len") (cK_len (K := K) rfl) (by rfl) T.z_len (by decide +kernel) (pa_cons (pv 0) pa_nil)) pe_int (nomark _))
        (pss_one (ps_ret (pe_callF0 G_meet (hr.mono (by decide)) rfl T.g_meet T.F_meet.kp pass0)))
        pss_nil)
      (pss_cons (ps_if (pt_cmpR op_eq (pe_callB (id := "len") (cK_len (K := K) rfl) (by rfl) T.z_len (by decide +kernel) (pa_cons (pv 0) pa_nil)) pe_int (nomark _))
        (pss_one (ps_ret (pe_callF G_meet (hr.mono (by decide)) T.F_meet.kp rfl T.g_meet pass0 (pa_cons (pe_ix (xK_list (K := K) rfl) (pv 0) pe_int (fun _ _ => rfl)) pa_nil))))
        pss_nil)
      (pss_cons (ps_if (pt_cmpR op_eq (pe_callB (id := "len") (cK_len (K := K) rfl) (by rfl) T.z_len (by decide +kernel) (pa_cons (pv 0) pa_nil)) pe_int (nomark _))
        (pss_one (ps_ret (pe_callF G_meet (hr.mono (by decide)) T.F_meet.kp rfl T.g_meet pass0 (pa_cons (pe_ix (xK_list (K := K) rfl) (pv 0) pe_int (fun _ _ => rfl)) (pa_cons (pe_ix (xK_list (K := K) rfl) (pv 0) pe_int (fun _ _ => rfl)) pa_nil)))))
        pss_nil)
      (pss_cons (ps_if (pt_cmpR op_eq (pe_callB (id := "len") (cK_len (K := K) rfl) (by rfl) T.z_len (by decide +kernel) (pa_cons (pv 0) pa_nil)) pe_int (nomark _))
        (pss_one (ps_ret (pe_callF G_meet (hr.mono (by decide)) T.F_meet.kp rfl T.g_meet pass0 (pa_cons (pe_ix (xK_list (K := K) rfl) (pv 0) pe_int (fun _ _ => rfl)) (pa_cons (pe_ix (xK_list (K := K) rfl) (pv 0) pe_int (fun _ _ => rfl)) (pa_cons (pe_ix (xK_list (K := K) rfl) (pv 0) pe_int (fun _ _ => rfl)) pa_nil))))))
        pss_nil)
      (pss_one (ps_ret (pe_callF G_meet (hr.mono (by decide)) T.F_meet.kp rfl T.g_meet pass0 (pa_cons (pe_ix (xK_list (K := K) rfl) (pv 0) pe_int (fun _ _ => rfl)) (pa_cons (pe_ix (xK_list (K := K) rfl) (pv 0) pe_int (fun _ _ => rfl)) (pa_cons (pe_ix (xK_list (K := K) rfl) (pv 0) pe_int (fun _ _ => rfl)) (pa_cons (pe_ix (xK_list (K := K) rfl) (pv 0) pe_int (fun _ _ => rfl)) pa_nil))))))))))), ?_⟩
    have hll := hall.length
    have hP : SqL K H p ls := SqL.of hp
    have tst : ∀ n : Int, An (tTest (tOp rEq (tCB (rLenK K) (tCons (tVar 0) tNil)) (tC (.int n)))) (L2.start N__law_met [.ref p]) H (decide ((ls.length : Int) = n)) := fun n =>
      an_cmp (vl_cb1 (vl_var rfl) fun Q q => ⟨_, _, rfl, .inl ⟨_, hP, rfl⟩, q⟩) vl_c fun Q q => ⟨rfl, asB q (by simp)⟩
    have done : ∀ (t : Addr) (ws : List V), H t = none → All2 (Pi H) ws ps → sp_meet K [.ref t] (upd H t (.tup ws)) Q E0 := fun t ws ht hw =>
      ⟨t, ws, ps, rfl, SqT.of upd_same, All2.imp (fun v n h => Pi.kp (Kp.new (A := []) ht) h) hw, hl4, hok, fun v H' m k => q v H' m ((Kp.new ht).trans k)⟩
    rcases ls with _ | ⟨v0, _ | ⟨v1, _ | ⟨v2, _ | ⟨v3, _ | ⟨v4, ls⟩⟩⟩⟩⟩
    · refine seq_if0 (tst 0) (fun _ => ?_) (fun c => by simp at c)
      walk_at "st"
      exact ⟨[], [], rfl, rfl, Nat.zero_le _, fun t ht => done t [] ht hall⟩
    · refine seq_if0 (tst 0) (fun c => by simp at c) (fun _ => ?_)
      refine seq_if0 (tst 1) (fun _ => ?_) (fun c => by simp at c)
      exact ⟨_, rfl, p, _, 0, _, rfl, rfl, hP, rfl, [], _, rfl, rfl, sz (by simp), fun t ht => done t _ ht hall⟩
    · refine seq_if0 (tst 0) (fun c => by simp at c) (fun _ => ?_)
      refine seq_if0 (tst 1) (fun c => by simp at c) (fun _ => ?_)
      refine seq_if0 (tst 2) (fun _ => ?_) (fun c => by simp at c)
      exact ⟨_, rfl, p, _, 0, _, rfl, rfl, hP, rfl, _, rfl, p, _, 1, _, rfl, rfl, hP, rfl, [], _, rfl, rfl, sz (by simp), fun t ht => done t _ ht hall⟩
    · refine seq_if0 (tst 0) (fun c => by simp at c) (fun _ => ?_)
      refine seq_if0 (tst 1) (fun c => by simp at c) (fun _ => ?_)
      refine seq_if0 (tst 2) (fun c => by simp at c) (fun _ => ?_)
      refine seq_if0 (tst 3) (fun _ => ?_) (fun c => by simp at c)
      exact ⟨_, rfl, p, _, 0, _, rfl, rfl, hP, rfl, _, rfl, p, _, 1, _, rfl, rfl, hP, rfl, _, rfl, p, _, 2, _, rfl, rfl, hP, rfl, [], _, rfl, rfl, sz (by simp), fun t ht => done t _ ht hall⟩
    · refine seq_if0 (tst 0) (fun c => by simp at c) (fun _ => ?_)
      refine seq_if0 (tst 1) (fun c => by simp at c) (fun _ => ?_)
      refine seq_if0 (tst 2) (fun c => by simp at c) (fun _ => ?_)
      refine seq_if0 (tst 3) (fun c => by simp at c) (fun _ => ?_)
      exact ⟨_, rfl, p, _, 0, _, rfl, rfl, hP, rfl, _, rfl, p, _, 1, _, rfl, rfl, hP, rfl, _, rfl, p, _, 2, _, rfl, rfl, hP, rfl, _, rfl, p, _, 3, _, rfl, rfl, hP, rfl, [], _, rfl, rfl, sz (by simp), fun t ht => done t _ ht hall⟩
    · simp at hll; omega
def sp__law_least_multiple (K : PySem.W.Frag) : Sp := fun vs H Q _ => ∃ (p : Addr) (ls : List V) (ps : List (Nat × Int)), vs = [.ref p] ∧ H p = some (.lst ls) ∧ All2 (Pi H) ls ps ∧ ps.length ≤ 4 ∧ (∀ q ∈ ps, okP q) ∧ Q (.int ((lcmL ps : Nat) : Int)) H
theorem ok__law_least_multiple (T : Txt K mg A D) : FnOk P w K mg base CX0 2 (A 18) (D 18) ["_law_steps"] (sp__law_least_multiple K) := by
  refine T.F__law_least_multiple.ok sc__law_least_multiple (fun vs H Q E h => ?_) (fun cdv A' outer s H vs Q E hr h => ?_)
  · obtain ⟨p, ls, ps, rfl, hp, hall, hl4, hok, q⟩ := h
    rfl
  · obtain ⟨p, ls, ps, rfl, hp, hall, hl4, hok, q⟩ := h
    have hu := hu_of hr
    have G__law_shared : FnOk P w K mg base CX0 1 (A 11) (D 11) ["_law_first", "_law_second"] (sp__law_shared K) := ok__law_shared T
    refine ⟨_, (pss_cons (ps_set (i := 1) sc__law_least_multiple.nd rfl (Or.inl rfl) pe_int)
      (pss_cons (ps_for PassesOwn.never rfl (iK_list (K := K) rfl (pv 0)) (pg_tup rfl (pgs_cons (pg_name (i := 2) sc__law_least_multiple.nd rfl (Or.inl rfl)) (pgs_cons (pg_name (i := 3) sc__law_least_multiple.nd rfl (Or.inl rfl)) pgs_nil)))
        (pss_one (ps_if (PW.pt (pw_or (pt_cmpR op_eq (pv 2) pe_int (nomark _)) (pw_or1 (pt_cmpR op_eq (pv 1) pe_int (nomark _)))))
          (pss_one (ps_set (i := 1) sc__law_least_multiple.nd rfl (Or.inl rfl) pe_int))
          (pss_one (ps_set (i := 1) sc__law_least_multiple.nd rfl (Or.inl rfl) (pe_op op_fdivW (pe_op op_mulW (pv 1) (pv 2)) (pe_call G__law_shared (hr.mono (by decide)) rfl T.g__law_shared T.F__law_shared.kp T.b__law_shared .nil pass0 (pa_cons (pv 1) (pa_cons (pv 2) pa_nil)))))))))
      (pss_one (ps_ret (pv 1))))), ?_⟩
    have hP : SqL K H p ls := SqL.of hp
    walk_at "set"
    refine seq_forK ?_
    refine ⟨_, rfl, _, rfl, ⟨_, hP⟩, for_seq walk_list (fun i σ H' => H' = H ∧ ∃ (M : Nat) (v2 v3 : Option V), σ = [some (.ref p), some (.int (M : Int)), v2, v3] ∧ M = lcmL (ps.take i) ∧ M ≤ 1000000 ^ i)
      ⟨rfl, 1, _, _, rfl, rfl, by decide⟩ (fun i σ H' _ z => by rw [z.1]; exact hP) ?_ ?_⟩
    · rintro i v σ H1 H2 hi ⟨rfl, M, v2, v3, rfl, eM, bM⟩ ⟨rfl, hv⟩
      have hi4 : i < 4 := by have := hall.length; omega
      obtain ⟨⟨s, o⟩, hs, t, rfl, ht⟩ := hall.at hv
      obtain ⟨bs, bo⟩ := hok _ (List.mem_of_getElem? hs)
      simp only at bs bo
      have et : ps.take (i + 1) = ps.take i ++ [(s, o)] := by rw [List.take_add_one, hs]; rfl
      have b4 : M ≤ 1000000 ^ 4 := Nat.le_trans bM (Nat.pow_le_pow_right (by decide) (by omega))
      have fin : Nat.lcm M s = lcmL (ps.take (i + 1)) ∧ Nat.lcm M s ≤ 1000000 ^ (i + 1) := by
        rw [et, lcmL_snoc, ← eM]
        refine ⟨rfl, ?_⟩
        have h1 := lcm_le_mul M s
        have h2 : M * s ≤ 1000000 ^ i * 1000000 := Nat.mul_le_mul bM (by omega)
        rw [Nat.pow_succ]; omega
      refine ⟨t, _, rfl, ht.sq, rfl, _, _, rfl, _, _, rfl, rfl, ?_⟩
      walk_at "if"
      · intro c
        have : Nat.lcm M s = 0 := by
          simp only [Bool.or_eq_true, decide_eq_true_eq, V.int.injEq] at c
          rcases c with c | c
          · have : s = 0 := by omega
            rw [this, Nat.lcm_zero_right]
          · have : M = 0 := by omega
            rw [this, Nat.lcm_zero_left]
        walk_at "st"
        exact ⟨rfl, 0, _, _, rfl, by rw [← fin.1, this], by omega⟩
      · intro c
        simp only [Bool.or_eq_false_iff, decide_eq_false_iff_not, V.int.injEq] at c
        walk_at "st"
        have gp : 0 < Nat.gcd M s := Nat.gcd_pos_of_pos_left _ (by omega)
        have gl : Nat.gcd M s ≤ s := Nat.le_of_dvd (by omega) (Nat.gcd_dvd_right _ _)
        refine ⟨_, rfl, _, rfl, _, _, rfl, rfl, w300 (by omega) (by omega), _, rfl, _, rfl, M, s, rfl, by omega, by omega, ?_⟩
        refine ⟨_, _, rfl, rfl, d300 (by show (0 : Int) < ((Nat.gcd M s : Nat) : Int); omega) (by show Nat.gcd M s < 2 ^ 1000; omega), ?_⟩
        have e : ((M : Int) * (s : Int)) / ((Nat.gcd M s : Nat) : Int) = ((Nat.lcm M s : Nat) : Int) := by
          rw [← Int.natCast_mul, ← Int.natCast_ediv]; rfl
        exact ⟨rfl, Nat.lcm M s, _, _, by rw [← e]; rfl, fin.1, fin.2⟩
    · rintro σ H1 ⟨rfl, M, v2, v3, rfl, eM, bM⟩
      rw [hall.length, List.take_length] at eM
      walk_at "st"
      refine ⟨_, rfl, ?_⟩
      rw [← eM] at q
      exact q
def dP (p : Nat × Int) : PyData := .tuple [.int p.1, .int p.2]
theorem Pi.dp {K : PySem.W.Frag} {H : Hp} {v : V} {p : Nat × Int} (h : Pi H v p) : Dp K H v (dP p) := by
  obtain ⟨t, rfl, e⟩ := h
  exact .tup e.sq (.cons (.int _) (.cons (.int _) .nil))
theorem Pi.dps {K : PySem.W.Frag} {H : Hp} : ∀ {ls : List V} {ps : List (Nat × Int)}, All2 (Pi H) ls ps → DpAll K H ls (ps.map dP)
  | [], [], _ => .nil
  | [], _ :: _, h => h.elim
  | _ :: _, [], h => h.elim
  | _ :: _, _ :: _, h => .cons h.1.dp (Pi.dps h.2)
theorem shP (ps : List (Nat × Int)) : SeqAt.shaped (.list (ps.map dP)) = true := by
  refine shaped_of ?_ ?_
  · rw [PyData.canLay0]
    exact lay_map fun p _ => rfl
  · rw [PyData.depth]
    have : PyData.depthAll (ps.map dP) ≤ 1 := depth_map fun p _ => by simp [dP, PyData.depth, PyData.depthAll]
    omega
def sp__law_meet_right (K : PySem.W.Frag) : Sp := fun vs H Q _ => ∃ (p : Addr) (ls : List V) (ps : List (Nat × Int)), vs = [.ref p] ∧ H p = some (.lst ls) ∧ All2 (Pi H) ls ps ∧ ps.length ≤ 4 ∧ (∀ q ∈ ps, okP q) ∧ ∀ H', Kp [] H H' → Q (.bl true) H'
theorem ok__law_meet_right (T : Txt K mg A D) : FnOk P w K mg base CX0 5 (A 19) (D 19) ["_law_steps"] (sp__law_meet_right K) := by
  refine T.F__law_meet_right.ok sc__law_meet_right (fun vs H Q E h => ?_) (fun cdv A' outer s H vs Q E hr h => ?_)
  · obtain ⟨p, ls, ps, rfl, hp, hall, hl4, hok, q⟩ := h
    rfl
  · obtain ⟨p, ls, ps, rfl, hp, hall, hl4, hok, q⟩ := h
    have hu := hu_of hr
    have G__law_met : FnOk P w K mg base CX0 4 (A 17) (D 17) ["_law_steps"] (sp__law_met K) := ok__law_met T
    have G__law_least_multiple : FnOk P w K mg base CX0 2 (A 18) (D 18) ["_law_steps"] (sp__law_least_multiple K) := ok__law_least_multiple T
    have G__law_is_progression : FnOk P w K mg base CX0 1 (A 13) (D 13) ["_law_actual"] (sp__law_is_progression K) := ok__law_is_progression T
    have G__law_fits : FnOk P w K mg base CX0 1 (A 12) (D 12) ["_law_number", "_law_modulus"] (sp__law_fits K) := ok__law_fits T
    have G__law_shared : FnOk P w K mg base CX0 1 (A 11) (D 11) ["_law_first", "_law_second"] (sp__law_shared K) := ok__law_shared T
    refine ⟨_, (pss_cons (ps_set (i := 1) sc__law_meet_right.nd rfl (Or.inl rfl) (pe_callTy (T := "list") (cK_list (K := K) rfl) (by rfl) T.z_list (by decide +kernel) (pa_cons (pv 0) pa_nil)))
      (C8.pss_cut (ps_set (i := 2) sc__law_meet_right.nd rfl (Or.inl rfl) (pe_call G__law_met (hr.mono (by decide)) rfl T.g__law_met T.F__law_met.kp T.b__law_met .nil pass0 (pa_cons (pv 1) pa_nil)))
      (pss_cons (ps_if (pt_cmpR (oK_neD (K := K) rfl hr.units) (pv 1) (pv 0) (nomark _))
        (pss_one (ps_ret pe_bl))
        pss_nil)
      (pss_cons (ps_set (i := 3) sc__law_meet_right.nd rfl (Or.inl rfl) pe_bl)
      (pss_cons (ps_for PassesOwn.never rfl (iK_list (K := K) rfl (pv 0)) (pg_name (i := 4) sc__law_meet_right.nd rfl (Or.inl rfl))
        (pss_one (ps_for PassesOwn.never rfl (iK_list (K := K) rfl (pv 0)) (pg_name (i := 5) sc__law_meet_right.nd rfl (Or.inl rfl))
          (pss_one (ps_if (pt_not (pt_val (pe_call G__law_fits (hr.mono (by decide)) rfl T.g__law_fits T.F__law_fits.kp T.b__law_fits .nil pass0 (pa_cons (pe_op op_sub (pe_ix (xK_tup (K := K) rfl) (pv 4) pe_int (fun _ _ => rfl)) (pe_ix (xK_tup (K := K) rfl) (pv 5) pe_int (fun _ _ => rfl))) (pa_cons (pe_call G__law_shared (hr.mono (by decide)) rfl T.g__law_shared T.F__law_shared.kp T.b__law_shared .nil pass0 (pa_cons (pe_ix (xK_tup (K := K) rfl) (pv 4) pe_int (fun _ _ => rfl)) (pa_cons (pe_ix (xK_tup (K := K) rfl) (pv 5) pe_int (fun _ _ => rfl)) pa_nil))) pa_nil)))))
            (pss_one (ps_set (i := 3) sc__law_meet_right.nd rfl (Or.inl rfl) pe_bl))
            pss_nil)))))
      (pss_cons (ps_if (pt_not (pt_val (pv 3)))
        (pss_one (ps_ret (pe_cmpR op_isN (pv 2) pe_non (nomark _))))
        pss_nil)
      (pss_cons (ps_if (PW.pt (pw_or (pt_cmpR op_isN (pv 2) pe_non (nomark _)) (pw_or1 (pt_not (pt_val (pe_call G__law_is_progression (hr.mono (by decide)) rfl T.g__law_is_progression T.F__law_is_progression.kp T.b__law_is_progression .nil pass0 (pa_cons (pv 2) pa_nil)))))))
        (pss_one (ps_ret pe_bl))
        pss_nil)
      (pss_cons (ps_for PassesOwn.never rfl (iK_list (K := K) rfl (pv 0)) (pg_tup rfl (pgs_cons (pg_name (i := 6) sc__law_meet_right.nd rfl (Or.inl rfl)) (pgs_cons (pg_name (i := 7) sc__law_meet_right.nd rfl (Or.inl rfl)) pgs_nil)))
        (pss_one (ps_if (pt_not (pt_val (pe_call G__law_fits (hr.mono (by decide)) rfl T.g__law_fits T.F__law_fits.kp T.b__law_fits .nil pass0 (pa_cons (pe_op op_sub (pe_ix (xK_tup (K := K) rfl) (pv 2) pe_int (fun _ _ => rfl)) (pv 7)) (pa_cons (pv 6) pa_nil)))))
          (pss_one (ps_ret pe_bl))
          pss_nil)))
      (pss_one (ps_ret (pe_cmpR op_eq (pe_ix (xK_tup (K := K) rfl) (pv 2) pe_int (fun _ _ => rfl)) (pe_call G__law_least_multiple (hr.mono (by decide)) rfl T.g__law_least_multiple T.F__law_least_multiple.kp T.b__law_least_multiple .nil pass0 (pa_cons (pv 0) pa_nil)) (nomark _)))))))))))), ?_⟩
    have hP : SqL K H p ls := SqL.of hp
    have hll := hall.length
    walk_at "st"
    refine ⟨_, rfl, p, _, rfl, .inl hP, fun l hl => ?_⟩
    have k1 : Kp [] H (upd H l (.lst ls)) := Kp.new hl
    refine cutK (fun σ H' => ∃ v : V, σ = [some (.ref p), some (.ref l), some v, none, none, none, none, none] ∧ Met ps v H' ∧ H' p = some (.lst ls) ∧ H' l = some (.lst ls) ∧ All2 (Pi H') ls ps ∧ Kp [] H H') ?_ ?_
    · walk_at "st"
      refine ⟨_, rfl, l, ls, ps, rfl, upd_same, All2.imp (fun v n h => Pi.kp k1 h) hall, hl4, hok, fun v H2 m k2 => ?_⟩
      exact ⟨v, rfl, m, (k1.trans k2).get hp (.inl List.not_mem_nil), k2.get upd_same (.inl List.not_mem_nil), All2.imp (fun v n h => Pi.kp (k1.trans k2) h) hall, k1.trans k2⟩
    rintro σ H2 ⟨v, rfl, m, hp2, hl2, all2, k2⟩
    have hP2 : SqL K H2 p ls := SqL.of hp2
    refine seq_if0 (b := false) (An.to (an_cmp (vl_var rfl) (vl_var rfl) fun Q q => ⟨.list (ps.map dP), .list (ps.map dP), .lst (SqL.of hl2) (Pi.dps all2), .lst (SqL.of hp2) (Pi.dps all2), shP ps, shP ps, q⟩) (by rw [SeqAt.eqv_refl _ (Bool.and_eq_true_iff.mp (shP ps)).1]; rfl)) (fun c => Bool.noConfusion c) (fun _ => ?_)
    walk_at "set"
    refine seq_forK ?_
    refine ⟨_, rfl, _, rfl, ⟨_, hP2⟩, for_seq walk_list (fun i σ H' => H' = H2 ∧ ∃ (f : Bool) (v4 v5 : Option V), σ = [some (.ref p), some (.ref l), some v, some (.bl f), v4, v5, none, none] ∧ (f = true ↔ ∀ a ∈ ps.take i, ∀ b ∈ ps, ((Nat.gcd a.1 b.1 : Nat) : Int) ∣ a.2 - b.2))
      ⟨rfl, true, _, _, rfl, by simp⟩ (fun i σ H' _ z => by rw [z.1]; exact hP2) ?_ ?_⟩
    · rintro i w σ H3 H4 hi ⟨rfl, f, v4, v5, rfl, hf⟩ ⟨rfl, hv⟩
      obtain ⟨⟨s, o⟩, hs, t, rfl, ht⟩ := all2.at hv
      have hok1 := hok _ (List.mem_of_getElem? hs)
      have et : ps.take (i + 1) = ps.take i ++ [(s, o)] := by rw [List.take_add_one, hs]; rfl
      refine gnK ?_
      refine ⟨_, rfl, _, rfl, ⟨_, hP2⟩, for_it walk_list (fun j σ H' => H' = H4 ∧ ∃ (f : Bool) (v5 : Option V), σ = [some (.ref p), some (.ref l), some v, some (.bl f), some (.ref t), v5, none, none] ∧ (f = true ↔ (∀ a ∈ ps.take i, ∀ b ∈ ps, ((Nat.gcd a.1 b.1 : Nat) : Int) ∣ a.2 - b.2) ∧ ∀ b ∈ ps.take j, ((Nat.gcd s b.1 : Nat) : Int) ∣ o - b.2))
        ⟨rfl, f, _, rfl, by simpa using hf⟩ (fun i σ H' _ z => by rw [z.1]; exact hP2) ?_ ?_⟩
      · rintro j w2 σ H5 H6 hj ⟨rfl, f2, v5', rfl, hf2⟩ ⟨rfl, hv2⟩
        obtain ⟨⟨s2, o2⟩, hs2, t2, rfl, ht2⟩ := all2.at hv2
        have hok2 := hok _ (List.mem_of_getElem? hs2)
        have et2 : ps.take (j + 1) = ps.take j ++ [(s2, o2)] := by rw [List.take_add_one, hs2]; rfl
        have q1 : SqT K H6 t [.int (s : Int), .int o] := ht.sq
        have q2 : SqT K H6 t2 [.int (s2 : Int), .int o2] := ht2.sq
        have b1 := hok1.1
        have b2 := hok2.1
        simp only at b1 b2
        refine gnK ?_
        refine if_anK ?_
        refine ⟨_, rfl, _, _, _, _, rfl, rfl, q1, rfl, _, rfl, _, _, _, _, rfl, rfl, q2, rfl, _, _, rfl, rfl, _, rfl, _, _, _, _, rfl, rfl, q1, rfl, _, rfl, _, _, _, _, rfl, rfl, q2, rfl, (s : Int), (s2 : Int), rfl, by omega, by omega, o - o2, Nat.gcd s s2, rfl, _, rfl, ?_⟩
        refine ite2 (fun c => ?_) (fun c => ?_)
        · have nd : ¬ ((Nat.gcd s s2 : Nat) : Int) ∣ o - o2 := by simpa using c
          walk_at "st"
          refine ⟨rfl, false, _, rfl, ?_⟩
          simp only [Bool.false_eq_true, false_iff]
          rintro ⟨_, h⟩
          exact nd (h (s2, o2) (by rw [et2]; simp))
        · have nd : ((Nat.gcd s s2 : Nat) : Int) ∣ o - o2 := by simpa using c
          walk_at "st"
          refine ⟨rfl, f2, _, rfl, ?_⟩
          rw [hf2, et2]
          constructor
          · rintro ⟨h1, h2⟩
            refine ⟨h1, fun b hb => ?_⟩
            rcases List.mem_append.mp hb with h | h
            · exact h2 b h
            · rw [List.mem_singleton.mp h]; exact nd
          · rintro ⟨h1, h2⟩
            exact ⟨h1, fun b hb => h2 b (List.mem_append_left _ hb)⟩
      · rintro σ H5 ⟨rfl, f2, v5', rfl, hf2⟩
        rw [hll, List.take_length] at hf2
        refine ⟨rfl, f2, _, _, rfl, ?_⟩
        rw [hf2, et]
        constructor
        · rintro ⟨h1, h2⟩ a ha
          rcases List.mem_append.mp ha with h | h
          · exact h1 a h
          · rw [List.mem_singleton.mp h]; exact h2
        · intro h
          exact ⟨fun a ha => h a (List.mem_append_left _ ha), h (s, o) (by simp)⟩
    rintro σ H3 ⟨rfl, f, v4, v5, rfl, hf⟩
    rw [hll, List.take_length] at hf
    have hf' : f = true ↔ agr ps := hf
    rcases m with ⟨rfl, na⟩ | ⟨t, R, rfl, ag, hsol, hR, ht⟩
    · have ef : f = false := by cases f with | false => rfl | true => exact absurd (hf'.mp rfl) na
      subst ef
      refine seq_if0 (b := true) (an_not (a := false) (an_val (vl_var rfl))) (fun _ => ?_) (fun c => Bool.noConfusion c)
      walk_at "st"
      exact ⟨_, rfl, rfl, asB (q _ k2) (by simp)⟩
    · have ef : f = true := hf'.mpr ag
      subst ef
      refine seq_if0 (b := false) (an_not (a := true) (an_val (vl_var rfl))) (fun c => Bool.noConfusion c) (fun _ => ?_)
      refine seq_ifK0 ?_
      refine ⟨_, rfl, rfl, _, rfl, ?_⟩
      refine ite2 (fun c => by simp at c) (fun _ => ?_)
      refine ⟨_, rfl, t, _, _, rfl, ht, hR, _, rfl, ?_⟩
      refine iteF ?_
      have htq : SqT K H3 t [.int (lcmL ps : Nat), .int R] := ht.sq
      refine seq_forK ?_
      refine ⟨_, rfl, _, rfl, ⟨_, hP2⟩, for_seq walk_list (fun i σ H' => H' = H3 ∧ ∃ (v4 v5 v6 v7 : Option V), σ = [some (.ref p), some (.ref l), some (.ref t), some (.bl true), v4, v5, v6, v7])
        ⟨rfl, _, _, _, _, rfl⟩ (fun i σ H' _ z => by rw [z.1]; exact hP2) ?_ ?_⟩
      · rintro i w σ H4 H5 hi ⟨rfl, v4, v5, v6, v7, rfl⟩ ⟨rfl, hv⟩
        obtain ⟨⟨s, o⟩, hs, t2, rfl, ht2⟩ := all2.at hv
        have hd := hsol _ (List.mem_of_getElem? hs)
        refine ⟨t2, _, rfl, ht2.sq, rfl, _, _, rfl, _, _, rfl, rfl, ?_⟩
        refine if_anK ?_
        refine ⟨_, rfl, _, _, _, _, rfl, rfl, htq, rfl, _, rfl, _, _, rfl, rfl, _, rfl, R - o, s, rfl, _, rfl, ?_⟩
        rw [decide_eq_true hd]
        refine iteF ?_
        exact ⟨rfl, _, _, _, _, rfl⟩
      · rintro σ H4 ⟨rfl, v4, v5, v6, v7, rfl⟩
        walk_at "st"
        refine ⟨_, rfl, _, _, _, _, rfl, rfl, htq, rfl, _, rfl, p, ls, ps, rfl, hp2, all2, hl4, hok, rfl, ?_⟩
        exact asB (q _ k2) (by simp)
theorem All2.rev {α β : Type} {R : α → β → Prop} : ∀ {xs : List α} {ys : List β}, All2 R xs ys → All2 R xs.reverse ys.reverse
  | [], [], _ => trivial
  | [], _ :: _, h => h.elim
  | _ :: _, [], h => h.elim
  | x :: xs, y :: ys, h => by rw [List.reverse_cons, List.reverse_cons]; exact All2.snoc (All2.rev h.2) h.1
theorem All2.take {α β : Type} {R : α → β → Prop} : ∀ {n : Nat} {xs : List α} {ys : List β}, All2 R xs ys → All2 R (xs.take n) (ys.take n)
  | 0, _, _, _ => by simp [All2]
  | n + 1, [], [], _ => trivial
  | n + 1, [], _ :: _, h => h.elim
  | n + 1, _ :: _, [], h => h.elim
  | n + 1, x :: xs, y :: ys, h => ⟨h.1, All2.take h.2⟩
theorem cut_to (xs : List V) (n : Nat) : cutV xs none (some (n : Int)) = xs.take n := by
  unfold cutV
  rw [HT.sIx_none, HT.sIx_nat, List.drop_zero, Nat.sub_zero]
  rw [← List.take_eq_take_min]
def sp_law (K : PySem.W.Frag) : Sp := fun vs H Q _ => ∃ (a : Addr) (ns : List Int), vs = [.ref a] ∧ SqL K H a (ns.map V.int) ∧ ns.length ≤ 63 ∧ ∀ H', Q (.bl true) H'
theorem ok_law (T : Txt K mg A D) : FnOk P w K mg base CX0 6 (A 20) (D 20) ["_law_script"] (sp_law K) := by
  refine T.F_law.ok sc_law (fun vs H Q E h => ?_) (fun cdv A' outer s H vs Q E hr h => ?_)
  · obtain ⟨a, ns, rfl, hS, hl, q⟩ := h
    rfl
  · obtain ⟨a, ns, rfl, hS, hl, q⟩ := h
    have hu := hu_of hr
    have G__law_source : FnOk P w K mg base CX0 1 (A 8) (D 8) ["_law_script", "_law_k"] (sp__law_source K) := ok__law_source T
    have G__law_progressions : FnOk P w K mg base CX0 3 (A 16) (D 16) ["_law_source_here"] (sp__law_progressions K) := ok__law_progressions T
    have G__law_meet_right : FnOk P w K mg base CX0 5 (A 19) (D 19) ["_law_steps"] (sp__law_meet_right K) := ok__law_meet_right T
    have G__law_formed_right : FnOk P w K mg base CX0 3 (A 15) (D 15) ["_law_source_here"] (sp__law_formed_right K) := ok__law_formed_right T
    have G__law_solved_right : FnOk P w K mg base CX0 3 (A 14) (D 14) ["_law_source_here"] (sp__law_solved_right K) := ok__law_solved_right T
    refine ⟨_, (pss_cons (ps_set (i := 1) sc_law.nd rfl (Or.inl rfl) (pe_call G__law_source (hr.mono (by decide)) rfl T.g__law_source T.F__law_source.kp T.b__law_source .nil pass0 (pa_cons (pv 0) (pa_cons pe_int pa_nil))))
      (pss_cons (ps_for PassesOwn.never rfl (pi_range1 rfl T.z_range (pa_cons pe_int pa_nil)) (pg_name (i := 2) sc_law.nd rfl (Or.inl rfl))
        (pss_one (ps_if (pt_not (pt_val (pe_call G__law_solved_right (hr.mono (by decide)) rfl T.g__law_solved_right T.F__law_solved_right.kp T.b__law_solved_right .nil pass0 (pa_cons (pv 1) pa_nil))))
          (pss_one (ps_ret pe_bl))
          pss_nil)))
      (pss_cons (ps_if (pt_not (pt_val (pe_call G__law_formed_right (hr.mono (by decide)) rfl T.g__law_formed_right T.F__law_formed_right.kp T.b__law_formed_right .nil pass0 (pa_cons (pe_call G__law_source (hr.mono (by decide)) rfl T.g__law_source T.F__law_source.kp T.b__law_source .nil pass0 (pa_cons (pv 0) (pa_cons pe_int pa_nil))) pa_nil))))
        (pss_one (ps_ret pe_bl))
        pss_nil)
      (pss_cons (ps_set (i := 3) sc_law.nd rfl (Or.inl rfl) (pe_call G__law_progressions (hr.mono (by decide)) rfl T.g__law_progressions T.F__law_progressions.kp T.b__law_progressions .nil pass0 (pa_cons (pe_call G__law_source (hr.mono (by decide)) rfl T.g__law_source T.F__law_source.kp T.b__law_source .nil pass0 (pa_cons (pv 0) (pa_cons pe_int pa_nil))) pa_nil)))
      (pss_cons (ps_if (PW.pt (pw_or (pt_not (pt_val (pe_call G__law_meet_right (hr.mono (by decide)) rfl T.g__law_meet_right T.F__law_meet_right.kp T.b__law_meet_right .nil pass0 (pa_cons (pv 3) pa_nil)))) (pw_or1 (pt_not (pt_val (pe_call G__law_meet_right (hr.mono (by decide)) rfl T.g__law_meet_right T.F__law_meet_right.kp T.b__law_meet_right .nil pass0 (pa_cons (pe_revL (pv 3)) pa_nil)))))))
        (pss_one (ps_ret pe_bl))
        pss_nil)
      (pss_one (ps_ret (pe_call G__law_meet_right (hr.mono (by decide)) rfl T.g__law_meet_right T.F__law_meet_right.kp T.b__law_meet_right .nil pass0 (pa_cons (pe_slice sl_list (pv 3) po_none (po_some pe_int)) pa_nil))))))))), ?_⟩
    walk_at "st"
    refine ⟨_, rfl, a, ns, 0, rfl, hS, hl, fun p H1 hp k1 s1 => ?_⟩
    refine seq_forK ?_
    refine ⟨_, rfl, by decide, by decide, for_seq walk_range (fun i σ H' => ∃ (v2 v3 : Option V), σ = [some (.ref a), some (.ref p), v2, v3] ∧ Kp [] H H' ∧ Src H' p)
      ⟨_, _, rfl, k1, s1⟩ (fun _ _ _ _ _ => trivial) ?_ ?_⟩
    · rintro i v σ H2 H3 hi ⟨v2, v3, rfl, k2, s2⟩ ⟨rfl, rfl⟩
      walk_at "st"
      refine ⟨_, rfl, p, rfl, s2, fun H4 k4 s4 => ?_⟩
      refine ⟨_, rfl, ?_⟩
      refine iteF ?_
      exact ⟨_, _, rfl, Kp.back hp (k2.nil.trans k4), s4⟩
    rintro σ H2 ⟨v2, v3, rfl, k2, s2⟩
    refine seq_ifK0 ?_
    refine ⟨_, rfl, a, ns, 1, rfl, k2.sqL List.not_mem_nil hS, hl, fun p2 H3 hp2 k3 s3 => ?_⟩
    refine ⟨p2, rfl, s3, fun H4 k4 => ?_⟩
    refine ⟨_, rfl, ?_⟩
    refine iteF ?_
    have k4' : Kp [] H H4 := k2.trans (Kp.back hp2 (k3.nil.trans k4))
    walk_at "st"
    refine ⟨_, rfl, a, ns, 2, rfl, k4'.sqL List.not_mem_nil hS, hl, fun p3 H5 hp3 k5 s5 => ⟨p3, rfl, s5, fun L ls ps H6 hL e6 hall hl4 hok k6 => ?_⟩⟩
    refine seq_ifK0 ?_
    refine ⟨_, rfl, L, ls, ps, rfl, e6, hall, hl4, hok, fun H7 k7 => ⟨_, rfl, ?_⟩⟩
    refine iteF ?_
    have e7 := k7.get e6 (.inl List.not_mem_nil)
    have all7 : All2 (Pi H7) ls ps := All2.imp (fun v n h => Pi.kp k7 h) hall
    refine ⟨_, rfl, L, ls, rfl, SqL.of e7, fun r hr => ?_⟩
    have k8 : Kp [] H7 (upd H7 r (.lst ls.reverse)) := Kp.new hr
    refine ⟨r, ls.reverse, ps.reverse, rfl, upd_same, All2.imp (fun v n h => Pi.kp k8 h) (All2.rev all7), by simpa using hl4, fun q hq => hok q (by simpa using hq), fun H9 k9 => ⟨_, rfl, ?_⟩⟩
    refine iteF ?_
    have k9' := k8.trans k9
    have e9 := k9'.get e7 (.inl List.not_mem_nil)
    have all9 : All2 (Pi H9) ls ps := All2.imp (fun v n h => Pi.kp k9' h) all7
    walk_at "st"
    refine ⟨_, rfl, _, rfl, L, ls, rfl, SqL.of e9, fun c hc => ?_⟩
    rw [show cutV ls none (some 2) = ls.take 2 from cut_to ls 2]
    have k10 : Kp [] H9 (upd H9 c (.lst (ls.take 2))) := Kp.new hc
    exact ⟨c, ls.take 2, ps.take 2, rfl, upd_same, All2.imp (fun v n h => Pi.kp k10 h) (All2.take all9), by rw [List.length_take]; omega, fun q hq => hok q (List.mem_of_mem_take hq), fun H11 _ => q _⟩
end
theorem all_mk {l : PySem.W.OpenLaw} {w : World} {K : PySem.W.Frag} {h : Heap} {mg : Str → Option Value} {fa : Addr} (X : K.In h) (G : h.Ns mainGlobals mg) (hfa : mg "law" = some (.ref fa))
    {oc2 kV2 dc2 pm2 cd2 ct2 : Value} {od2 an2 : Option Addr} {sl2 : Array (Option Value)} {f2 : Addr}
    (a2 : PySem.W.nsIn K mainGlobals "progression" = some (some (.ref f2))) (l2 : K.lookup f2 = some ⟨oc2, od2, .func (PySem.W.fnOf "progression" "progression" (defArgs (topS 2)) (defBody (topS 2)) (defScope (topS 2)) .none kV2 dc2 pm2 an2 cd2 ct2), sl2⟩) (c2 : PySem.W.codeIn K cd2 "progression" = true) (k2 : PySem.W.keepIn K (.ref f2) = true)
    {oc3 kV3 dc3 pm3 cd3 ct3 : Value} {od3 an3 : Option Addr} {sl3 : Array (Option Value)} {f3 : Addr}
    (a3 : PySem.W.nsIn K mainGlobals "is_in" = some (some (.ref f3))) (l3 : K.lookup f3 = some ⟨oc3, od3, .func (PySem.W.fnOf "is_in" "is_in" (defArgs (topS 3)) (defBody (topS 3)) (defScope (topS 3)) .none kV3 dc3 pm3 an3 cd3 ct3), sl3⟩) (c3 : PySem.W.codeIn K cd3 "is_in" = true) (k3 : PySem.W.keepIn K (.ref f3) = true)
    {oc4 kV4 dc4 pm4 cd4 ct4 : Value} {od4 an4 : Option Addr} {sl4 : Array (Option Value)} {f4 : Addr}
    (a4 : PySem.W.nsIn K mainGlobals "inverse" = some (some (.ref f4))) (l4 : K.lookup f4 = some ⟨oc4, od4, .func (PySem.W.fnOf "inverse" "inverse" (defArgs (topS 4)) (defBody (topS 4)) (defScope (topS 4)) .none kV4 dc4 pm4 an4 cd4 ct4), sl4⟩) (c4 : PySem.W.codeIn K cd4 "inverse" = true) (k4 : PySem.W.keepIn K (.ref f4) = true)
    {oc5 kV5 dc5 pm5 cd5 ct5 : Value} {od5 an5 : Option Addr} {sl5 : Array (Option Value)} {f5 : Addr}
    (a5 : PySem.W.nsIn K mainGlobals "solve_one" = some (some (.ref f5))) (l5 : K.lookup f5 = some ⟨oc5, od5, .func (PySem.W.fnOf "solve_one" "solve_one" (defArgs (topS 5)) (defBody (topS 5)) (defScope (topS 5)) .none kV5 dc5 pm5 an5 cd5 ct5), sl5⟩) (c5 : PySem.W.codeIn K cd5 "solve_one" = true) (k5 : PySem.W.keepIn K (.ref f5) = true)
    {oc6 kV6 dc6 pm6 cd6 ct6 : Value} {od6 an6 : Option Addr} {sl6 : Array (Option Value)} {f6 : Addr}
    (a6 : PySem.W.nsIn K mainGlobals "meet" = some (some (.ref f6))) (l6 : K.lookup f6 = some ⟨oc6, od6, .func (PySem.W.fnOf "meet" "meet" (defArgs (topS 6)) (defBody (topS 6)) (defScope (topS 6)) .none kV6 dc6 pm6 an6 cd6 ct6), sl6⟩) (c6 : PySem.W.codeIn K cd6 "meet" = true) (k6 : PySem.W.keepIn K (.ref f6) = true)
    {oc8 kV8 dc8 pm8 cd8 ct8 : Value} {od8 an8 : Option Addr} {sl8 : Array (Option Value)} {f8 : Addr}
    (a8 : PySem.W.nsIn K mainGlobals "_law_source" = some (some (.ref f8))) (l8 : K.lookup f8 = some ⟨oc8, od8, .func (PySem.W.fnOf "_law_source" "_law_source" (defArgs (topS 8)) (defBody (topS 8)) (defScope (topS 8)) .none kV8 dc8 pm8 an8 cd8 ct8), sl8⟩) (c8 : PySem.W.codeIn K cd8 "_law_source" = true) (k8 : PySem.W.keepIn K (.ref f8) = true)
    {oc9 kV9 dc9 pm9 cd9 ct9 : Value} {od9 an9 : Option Addr} {sl9 : Array (Option Value)} {f9 : Addr}
    (a9 : PySem.W.nsIn K mainGlobals "_law_draw" = some (some (.ref f9))) (l9 : K.lookup f9 = some ⟨oc9, od9, .func (PySem.W.fnOf "_law_draw" "_law_draw" (defArgs (topS 9)) (defBody (topS 9)) (defScope (topS 9)) .none kV9 dc9 pm9 an9 cd9 ct9), sl9⟩) (c9 : PySem.W.codeIn K cd9 "_law_draw" = true) (k9 : PySem.W.keepIn K (.ref f9) = true)
    {oc10 kV10 dc10 pm10 cd10 ct10 : Value} {od10 an10 : Option Addr} {sl10 : Array (Option Value)} {f10 : Addr}
    (a10 : PySem.W.nsIn K mainGlobals "_law_size" = some (some (.ref f10))) (l10 : K.lookup f10 = some ⟨oc10, od10, .func (PySem.W.fnOf "_law_size" "_law_size" (defArgs (topS 10)) (defBody (topS 10)) (defScope (topS 10)) .none kV10 dc10 pm10 an10 cd10 ct10), sl10⟩) (c10 : PySem.W.codeIn K cd10 "_law_size" = true) (k10 : PySem.W.keepIn K (.ref f10) = true)
    {oc11 kV11 dc11 pm11 cd11 ct11 : Value} {od11 an11 : Option Addr} {sl11 : Array (Option Value)} {f11 : Addr}
    (a11 : PySem.W.nsIn K mainGlobals "_law_shared" = some (some (.ref f11))) (l11 : K.lookup f11 = some ⟨oc11, od11, .func (PySem.W.fnOf "_law_shared" "_law_shared" (defArgs (topS 11)) (defBody (topS 11)) (defScope (topS 11)) .none kV11 dc11 pm11 an11 cd11 ct11), sl11⟩) (c11 : PySem.W.codeIn K cd11 "_law_shared" = true) (k11 : PySem.W.keepIn K (.ref f11) = true)
    {oc12 kV12 dc12 pm12 cd12 ct12 : Value} {od12 an12 : Option Addr} {sl12 : Array (Option Value)} {f12 : Addr}
    (a12 : PySem.W.nsIn K mainGlobals "_law_fits" = some (some (.ref f12))) (l12 : K.lookup f12 = some ⟨oc12, od12, .func (PySem.W.fnOf "_law_fits" "_law_fits" (defArgs (topS 12)) (defBody (topS 12)) (defScope (topS 12)) .none kV12 dc12 pm12 an12 cd12 ct12), sl12⟩) (c12 : PySem.W.codeIn K cd12 "_law_fits" = true) (k12 : PySem.W.keepIn K (.ref f12) = true)
    {oc13 kV13 dc13 pm13 cd13 ct13 : Value} {od13 an13 : Option Addr} {sl13 : Array (Option Value)} {f13 : Addr}
    (a13 : PySem.W.nsIn K mainGlobals "_law_is_progression" = some (some (.ref f13))) (l13 : K.lookup f13 = some ⟨oc13, od13, .func (PySem.W.fnOf "_law_is_progression" "_law_is_progression" (defArgs (topS 13)) (defBody (topS 13)) (defScope (topS 13)) .none kV13 dc13 pm13 an13 cd13 ct13), sl13⟩) (c13 : PySem.W.codeIn K cd13 "_law_is_progression" = true) (k13 : PySem.W.keepIn K (.ref f13) = true)
    {oc14 kV14 dc14 pm14 cd14 ct14 : Value} {od14 an14 : Option Addr} {sl14 : Array (Option Value)} {f14 : Addr}
    (a14 : PySem.W.nsIn K mainGlobals "_law_solved_right" = some (some (.ref f14))) (l14 : K.lookup f14 = some ⟨oc14, od14, .func (PySem.W.fnOf "_law_solved_right" "_law_solved_right" (defArgs (topS 14)) (defBody (topS 14)) (defScope (topS 14)) .none kV14 dc14 pm14 an14 cd14 ct14), sl14⟩) (c14 : PySem.W.codeIn K cd14 "_law_solved_right" = true) (k14 : PySem.W.keepIn K (.ref f14) = true)
    {oc15 kV15 dc15 pm15 cd15 ct15 : Value} {od15 an15 : Option Addr} {sl15 : Array (Option Value)} {f15 : Addr}
    (a15 : PySem.W.nsIn K mainGlobals "_law_formed_right" = some (some (.ref f15))) (l15 : K.lookup f15 = some ⟨oc15, od15, .func (PySem.W.fnOf "_law_formed_right" "_law_formed_right" (defArgs (topS 15)) (defBody (topS 15)) (defScope (topS 15)) .none kV15 dc15 pm15 an15 cd15 ct15), sl15⟩) (c15 : PySem.W.codeIn K cd15 "_law_formed_right" = true) (k15 : PySem.W.keepIn K (.ref f15) = true)
    {oc16 kV16 dc16 pm16 cd16 ct16 : Value} {od16 an16 : Option Addr} {sl16 : Array (Option Value)} {f16 : Addr}
    (a16 : PySem.W.nsIn K mainGlobals "_law_progressions" = some (some (.ref f16))) (l16 : K.lookup f16 = some ⟨oc16, od16, .func (PySem.W.fnOf "_law_progressions" "_law_progressions" (defArgs (topS 16)) (defBody (topS 16)) (defScope (topS 16)) .none kV16 dc16 pm16 an16 cd16 ct16), sl16⟩) (c16 : PySem.W.codeIn K cd16 "_law_progressions" = true) (k16 : PySem.W.keepIn K (.ref f16) = true)
    {oc17 kV17 dc17 pm17 cd17 ct17 : Value} {od17 an17 : Option Addr} {sl17 : Array (Option Value)} {f17 : Addr}
    (a17 : PySem.W.nsIn K mainGlobals "_law_met" = some (some (.ref f17))) (l17 : K.lookup f17 = some ⟨oc17, od17, .func (PySem.W.fnOf "_law_met" "_law_met" (defArgs (topS 17)) (defBody (topS 17)) (defScope (topS 17)) .none kV17 dc17 pm17 an17 cd17 ct17), sl17⟩) (c17 : PySem.W.codeIn K cd17 "_law_met" = true) (k17 : PySem.W.keepIn K (.ref f17) = true)
    {oc18 kV18 dc18 pm18 cd18 ct18 : Value} {od18 an18 : Option Addr} {sl18 : Array (Option Value)} {f18 : Addr}
    (a18 : PySem.W.nsIn K mainGlobals "_law_least_multiple" = some (some (.ref f18))) (l18 : K.lookup f18 = some ⟨oc18, od18, .func (PySem.W.fnOf "_law_least_multiple" "_law_least_multiple" (defArgs (topS 18)) (defBody (topS 18)) (defScope (topS 18)) .none kV18 dc18 pm18 an18 cd18 ct18), sl18⟩) (c18 : PySem.W.codeIn K cd18 "_law_least_multiple" = true) (k18 : PySem.W.keepIn K (.ref f18) = true)
    {oc19 kV19 dc19 pm19 cd19 ct19 : Value} {od19 an19 : Option Addr} {sl19 : Array (Option Value)} {f19 : Addr}
    (a19 : PySem.W.nsIn K mainGlobals "_law_meet_right" = some (some (.ref f19))) (l19 : K.lookup f19 = some ⟨oc19, od19, .func (PySem.W.fnOf "_law_meet_right" "_law_meet_right" (defArgs (topS 19)) (defBody (topS 19)) (defScope (topS 19)) .none kV19 dc19 pm19 an19 cd19 ct19), sl19⟩) (c19 : PySem.W.codeIn K cd19 "_law_meet_right" = true) (k19 : PySem.W.keepIn K (.ref f19) = true)
    {oc20 kV20 dc20 pm20 cd20 ct20 : Value} {od20 an20 : Option Addr} {sl20 : Array (Option Value)} {f20 : Addr}
    (a20 : PySem.W.nsIn K mainGlobals "law" = some (some (.ref f20))) (l20 : K.lookup f20 = some ⟨oc20, od20, .func (PySem.W.fnOf "law" "law" (defArgs (topS 20)) (defBody (topS 20)) (defScope (topS 20)) .none kV20 dc20 pm20 an20 cd20 ct20), sl20⟩) (c20 : PySem.W.codeIn K cd20 "law" = true) (k20 : PySem.W.keepIn K (.ref f20) = true)
    (z_len : PySem.W.nsIn K mainGlobals "len" = some none)
    (z_int : PySem.W.nsIn K mainGlobals "int" = some none)
    (z_bool : PySem.W.nsIn K mainGlobals "bool" = some none)
    (z_list : PySem.W.nsIn K mainGlobals "list" = some none)
    (z_tuple : PySem.W.nsIn K mainGlobals "tuple" = some none)
    (z_range : PySem.W.nsIn K mainGlobals "range" = some none)
    (z_isinstance : PySem.W.nsIn K mainGlobals "isinstance" = some none)
    (z_abs : PySem.W.nsIn K mainGlobals "abs" = some none)
    (i_gcd : PySem.W.nsIn K mainGlobals "gcd" = some (some (.builtin "math.gcd")))
    : ∃ fd : FuncData, (∀ (s : Shared) (v : Value), BindsTo s fd ⟨[v], []⟩ [("_law_script", v)]) ∧ ∀ base : Heap, K.In base → base.Ns mainGlobals mg → FnOk l.prog w K mg base CX0 6 fa fd ["_law_script"] (sp_law K) := by
  have e := hfa.symm.trans (PySem.W.mg_of X G a20)
  cases e
  let A : Nat → Addr := fun i => match i with
    | 2 => f2
    | 3 => f3
    | 4 => f4
    | 5 => f5
    | 6 => f6
    | 8 => f8
    | 9 => f9
    | 10 => f10
    | 11 => f11
    | 12 => f12
    | 13 => f13
    | 14 => f14
    | 15 => f15
    | 16 => f16
    | 17 => f17
    | 18 => f18
    | 19 => f19
    | 20 => fa
    | _ => 0
  let D : Nat → FuncData := fun i => match i with
    | 2 => PySem.W.fnOf "progression" "progression" (defArgs (topS 2)) (defBody (topS 2)) (defScope (topS 2)) .none kV2 dc2 pm2 an2 cd2 ct2
    | 3 => PySem.W.fnOf "is_in" "is_in" (defArgs (topS 3)) (defBody (topS 3)) (defScope (topS 3)) .none kV3 dc3 pm3 an3 cd3 ct3
    | 4 => PySem.W.fnOf "inverse" "inverse" (defArgs (topS 4)) (defBody (topS 4)) (defScope (topS 4)) .none kV4 dc4 pm4 an4 cd4 ct4
    | 5 => PySem.W.fnOf "solve_one" "solve_one" (defArgs (topS 5)) (defBody (topS 5)) (defScope (topS 5)) .none kV5 dc5 pm5 an5 cd5 ct5
    | 6 => PySem.W.fnOf "meet" "meet" (defArgs (topS 6)) (defBody (topS 6)) (defScope (topS 6)) .none kV6 dc6 pm6 an6 cd6 ct6
    | 8 => PySem.W.fnOf "_law_source" "_law_source" (defArgs (topS 8)) (defBody (topS 8)) (defScope (topS 8)) .none kV8 dc8 pm8 an8 cd8 ct8
    | 9 => PySem.W.fnOf "_law_draw" "_law_draw" (defArgs (topS 9)) (defBody (topS 9)) (defScope (topS 9)) .none kV9 dc9 pm9 an9 cd9 ct9
    | 10 => PySem.W.fnOf "_law_size" "_law_size" (defArgs (topS 10)) (defBody (topS 10)) (defScope (topS 10)) .none kV10 dc10 pm10 an10 cd10 ct10
    | 11 => PySem.W.fnOf "_law_shared" "_law_shared" (defArgs (topS 11)) (defBody (topS 11)) (defScope (topS 11)) .none kV11 dc11 pm11 an11 cd11 ct11
    | 12 => PySem.W.fnOf "_law_fits" "_law_fits" (defArgs (topS 12)) (defBody (topS 12)) (defScope (topS 12)) .none kV12 dc12 pm12 an12 cd12 ct12
    | 13 => PySem.W.fnOf "_law_is_progression" "_law_is_progression" (defArgs (topS 13)) (defBody (topS 13)) (defScope (topS 13)) .none kV13 dc13 pm13 an13 cd13 ct13
    | 14 => PySem.W.fnOf "_law_solved_right" "_law_solved_right" (defArgs (topS 14)) (defBody (topS 14)) (defScope (topS 14)) .none kV14 dc14 pm14 an14 cd14 ct14
    | 15 => PySem.W.fnOf "_law_formed_right" "_law_formed_right" (defArgs (topS 15)) (defBody (topS 15)) (defScope (topS 15)) .none kV15 dc15 pm15 an15 cd15 ct15
    | 16 => PySem.W.fnOf "_law_progressions" "_law_progressions" (defArgs (topS 16)) (defBody (topS 16)) (defScope (topS 16)) .none kV16 dc16 pm16 an16 cd16 ct16
    | 17 => PySem.W.fnOf "_law_met" "_law_met" (defArgs (topS 17)) (defBody (topS 17)) (defScope (topS 17)) .none kV17 dc17 pm17 an17 cd17 ct17
    | 18 => PySem.W.fnOf "_law_least_multiple" "_law_least_multiple" (defArgs (topS 18)) (defBody (topS 18)) (defScope (topS 18)) .none kV18 dc18 pm18 an18 cd18 ct18
    | 19 => PySem.W.fnOf "_law_meet_right" "_law_meet_right" (defArgs (topS 19)) (defBody (topS 19)) (defScope (topS 19)) .none kV19 dc19 pm19 an19 cd19 ct19
    | 20 => PySem.W.fnOf "law" "law" (defArgs (topS 20)) (defBody (topS 20)) (defScope (topS 20)) .none kV20 dc20 pm20 an20 cd20 ct20
    | _ => PySem.W.fnOf "law" "law" (defArgs (topS 20)) (defBody (topS 20)) (defScope (topS 20)) .none kV20 dc20 pm20 an20 cd20 ct20
  have T : Txt K mg A D := {
    F_progression := fun_mk (st := topS 2) l2 c2 k2
    g_progression := PySem.W.mg_of X G a2
    b_progression := (fun_mk (st := topS 2) l2 c2 k2).binds (ps := ["modulus", "rest"]) fun _ _ _ _ _ _ us hl => match us, hl with | [_, _], _ => rfl
    F_is_in := fun_mk (st := topS 3) l3 c3 k3
    g_is_in := PySem.W.mg_of X G a3
    b_is_in := (fun_mk (st := topS 3) l3 c3 k3).binds (ps := ["number", "steps"]) fun _ _ _ _ _ _ us hl => match us, hl with | [_, _], _ => rfl
    F_inverse := fun_mk (st := topS 4) l4 c4 k4
    g_inverse := PySem.W.mg_of X G a4
    b_inverse := (fun_mk (st := topS 4) l4 c4 k4).binds (ps := ["number", "modulus"]) fun _ _ _ _ _ _ us hl => match us, hl with | [_, _], _ => rfl
    F_solve_one := fun_mk (st := topS 5) l5 c5 k5
    g_solve_one := PySem.W.mg_of X G a5
    b_solve_one := (fun_mk (st := topS 5) l5 c5 k5).binds (ps := ["coefficient", "modulus", "rest"]) fun _ _ _ _ _ _ us hl => match us, hl with | [_, _, _], _ => rfl
    F_meet := fun_mk (st := topS 6) l6 c6 k6
    g_meet := PySem.W.mg_of X G a6
    F__law_source := fun_mk (st := topS 8) l8 c8 k8
    g__law_source := PySem.W.mg_of X G a8
    b__law_source := (fun_mk (st := topS 8) l8 c8 k8).binds (ps := ["_law_script", "_law_k"]) fun _ _ _ _ _ _ us hl => match us, hl with | [_, _], _ => rfl
    F__law_draw := fun_mk (st := topS 9) l9 c9 k9
    g__law_draw := PySem.W.mg_of X G a9
    b__law_draw := (fun_mk (st := topS 9) l9 c9 k9).binds (ps := ["_law_source_here", "_law_limit"]) fun _ _ _ _ _ _ us hl => match us, hl with | [_, _], _ => rfl
    F__law_size := fun_mk (st := topS 10) l10 c10 k10
    g__law_size := PySem.W.mg_of X G a10
    b__law_size := (fun_mk (st := topS 10) l10 c10 k10).binds (ps := ["_law_source_here", "_law_most"]) fun _ _ _ _ _ _ us hl => match us, hl with | [_, _], _ => rfl
    F__law_shared := fun_mk (st := topS 11) l11 c11 k11
    g__law_shared := PySem.W.mg_of X G a11
    b__law_shared := (fun_mk (st := topS 11) l11 c11 k11).binds (ps := ["_law_first", "_law_second"]) fun _ _ _ _ _ _ us hl => match us, hl with | [_, _], _ => rfl
    F__law_fits := fun_mk (st := topS 12) l12 c12 k12
    g__law_fits := PySem.W.mg_of X G a12
    b__law_fits := (fun_mk (st := topS 12) l12 c12 k12).binds (ps := ["_law_number", "_law_modulus"]) fun _ _ _ _ _ _ us hl => match us, hl with | [_, _], _ => rfl
    F__law_is_progression := fun_mk (st := topS 13) l13 c13 k13
    g__law_is_progression := PySem.W.mg_of X G a13
    b__law_is_progression := (fun_mk (st := topS 13) l13 c13 k13).binds (ps := ["_law_actual"]) fun _ _ _ _ _ _ us hl => match us, hl with | [_], _ => rfl
    F__law_solved_right := fun_mk (st := topS 14) l14 c14 k14
    g__law_solved_right := PySem.W.mg_of X G a14
    b__law_solved_right := (fun_mk (st := topS 14) l14 c14 k14).binds (ps := ["_law_source_here"]) fun _ _ _ _ _ _ us hl => match us, hl with | [_], _ => rfl
    F__law_formed_right := fun_mk (st := topS 15) l15 c15 k15
    g__law_formed_right := PySem.W.mg_of X G a15
    b__law_formed_right := (fun_mk (st := topS 15) l15 c15 k15).binds (ps := ["_law_source_here"]) fun _ _ _ _ _ _ us hl => match us, hl with | [_], _ => rfl
    F__law_progressions := fun_mk (st := topS 16) l16 c16 k16
    g__law_progressions := PySem.W.mg_of X G a16
    b__law_progressions := (fun_mk (st := topS 16) l16 c16 k16).binds (ps := ["_law_source_here"]) fun _ _ _ _ _ _ us hl => match us, hl with | [_], _ => rfl
    F__law_met := fun_mk (st := topS 17) l17 c17 k17
    g__law_met := PySem.W.mg_of X G a17
    b__law_met := (fun_mk (st := topS 17) l17 c17 k17).binds (ps := ["_law_steps"]) fun _ _ _ _ _ _ us hl => match us, hl with | [_], _ => rfl
    F__law_least_multiple := fun_mk (st := topS 18) l18 c18 k18
    g__law_least_multiple := PySem.W.mg_of X G a18
    b__law_least_multiple := (fun_mk (st := topS 18) l18 c18 k18).binds (ps := ["_law_steps"]) fun _ _ _ _ _ _ us hl => match us, hl with | [_], _ => rfl
    F__law_meet_right := fun_mk (st := topS 19) l19 c19 k19
    g__law_meet_right := PySem.W.mg_of X G a19
    b__law_meet_right := (fun_mk (st := topS 19) l19 c19 k19).binds (ps := ["_law_steps"]) fun _ _ _ _ _ _ us hl => match us, hl with | [_], _ => rfl
    F_law := fun_mk (st := topS 20) l20 c20 k20
    g_law := PySem.W.mg_of X G a20
    b_law := (fun_mk (st := topS 20) l20 c20 k20).binds (ps := ["_law_script"]) fun _ _ _ _ _ _ us hl => match us, hl with | [_], _ => rfl
    z_len := PySem.W.mg_none_of X G z_len
    z_int := PySem.W.mg_none_of X G z_int
    z_bool := PySem.W.mg_none_of X G z_bool
    z_list := PySem.W.mg_none_of X G z_list
    z_tuple := PySem.W.mg_none_of X G z_tuple
    z_range := PySem.W.mg_none_of X G z_range
    z_isinstance := PySem.W.mg_none_of X G z_isinstance
    z_abs := PySem.W.mg_none_of X G z_abs
    i_gcd := PySem.W.mg_of X G i_gcd
  }
  exact ⟨D 20, fun s v => .of_eq rfl, fun base _ _ => ok_law T⟩
theorem walk {l : PySem.W.OpenLaw} {q : Program} {loose : List Str} {XP : (Str → Option Value) → Heap → Prop} {YP : World → Heap → Prop} {d : DefRec} {K : Params → PySem.W.Frag} (hn : l.most = some 63) (hdf : d.params.defaults = [])
    (hY : ∀ (w : World) (h : Heap), YP w h → (K w.params).In h)
    (F : ∀ (w : World) (mg : Str → Option Value) (fa : Addr) (h : Heap), (K w.params).In h → h.Ns mainGlobals mg → mg d.name = some (.ref fa) →
      ∃ fd : FuncData, (∀ (s : Shared) (u : Value), BindsTo s fd ⟨[u], []⟩ [("_law_script", u)]) ∧ ∀ base : Heap, (K w.params).In base → base.Ns mainGlobals mg → FnOk l.prog w (K w.params) mg base CX0 6 fa fd ["_law_script"] (sp_law (K w.params))) :
    PySem.W.WalkO q loose XP YP l.row.toRowW d [] (fun f vs => PySem.call f vs) :=
  L2.walk_of (n := 63) (k := 6) (x := "_law_script") (CX := fun _ => CX0) (sp := fun w => sp_law (K w.params)) hn (by decide) hdf ⟨rfl, by decide, by decide⟩ hY F (fun _ H a ns hl hO hS => ⟨a, ns, rfl, hS, hl, fun _ => rfl⟩) fun _ _ _ _ _ z => z
end Sl
open PySem PySem.W PyProof.Rows
set_option maxRecDepth 100000 in
set_option maxHeartbeats 0 in
theorem PySem.Challenge.cw_shadowlinks_k30_progressions_holds : PySem.Challenge.rw_shadowlinks_k30_progressions.Holds := by
  w_on; o_law; k_head; (case hw => w_witness2)
  k_fill
  refine Sl.walk (l := PySem.Challenge.rw_shadowlinks_k30_progressions) rfl rfl (fun w h Y => PySem.W.kIn_of Y) ?F
  case F =>
    intro w mg fa h KX G hmg
    refine' Sl.all_mk KX G hmg ?a2 ?l2 ?c2 ?k2 ?a3 ?l3 ?c3 ?k3 ?a4 ?l4 ?c4 ?k4 ?a5 ?l5 ?c5 ?k5 ?a6 ?l6 ?c6 ?k6 ?a8 ?l8 ?c8 ?k8 ?a9 ?l9 ?c9 ?k9 ?a10 ?l10 ?c10 ?k10 ?a11 ?l11 ?c11 ?k11 ?a12 ?l12 ?c12 ?k12 ?a13 ?l13 ?c13 ?k13 ?a14 ?l14 ?c14 ?k14 ?a15 ?l15 ?c15 ?k15 ?a16 ?l16 ?c16 ?k16 ?a17 ?l17 ?c17 ?k17 ?a18 ?l18 ?c18 ?k18 ?a19 ?l19 ?c19 ?k19 ?a20 ?l20 ?c20 ?k20 ?z_len ?z_int ?z_bool ?z_list ?z_tuple ?z_range ?z_isinstance ?z_abs ?i_gcd
    (case a2 => k_is)
    (case l2 => k_is)
    (case c2 => k_is)
    (case k2 => k_is)
    (case a3 => k_is)
    (case l3 => k_is)
    (case c3 => k_is)
    (case k3 => k_is)
    (case a4 => k_is)
    (case l4 => k_is)
    (case c4 => k_is)
    (case k4 => k_is)
    (case a5 => k_is)
    (case l5 => k_is)
    (case c5 => k_is)
    (case k5 => k_is)
    (case a6 => k_is)
    (case l6 => k_is)
    (case c6 => k_is)
    (case k6 => k_is)
    (case a8 => k_is)
    (case l8 => k_is)
    (case c8 => k_is)
    (case k8 => k_is)
    (case a9 => k_is)
    (case l9 => k_is)
    (case c9 => k_is)
    (case k9 => k_is)
    (case a10 => k_is)
    (case l10 => k_is)
    (case c10 => k_is)
    (case k10 => k_is)
    (case a11 => k_is)
    (case l11 => k_is)
    (case c11 => k_is)
    (case k11 => k_is)
    (case a12 => k_is)
    (case l12 => k_is)
    (case c12 => k_is)
    (case k12 => k_is)
    (case a13 => k_is)
    (case l13 => k_is)
    (case c13 => k_is)
    (case k13 => k_is)
    (case a14 => k_is)
    (case l14 => k_is)
    (case c14 => k_is)
    (case k14 => k_is)
    (case a15 => k_is)
    (case l15 => k_is)
    (case c15 => k_is)
    (case k15 => k_is)
    (case a16 => k_is)
    (case l16 => k_is)
    (case c16 => k_is)
    (case k16 => k_is)
    (case a17 => k_is)
    (case l17 => k_is)
    (case c17 => k_is)
    (case k17 => k_is)
    (case a18 => k_is)
    (case l18 => k_is)
    (case c18 => k_is)
    (case k18 => k_is)
    (case a19 => k_is)
    (case l19 => k_is)
    (case c19 => k_is)
    (case k19 => k_is)
    (case a20 => k_is)
    (case l20 => k_is)
    (case c20 => k_is)
    (case k20 => k_is)
    (case z_len => k_is)
    (case z_int => k_is)
    (case z_bool => k_is)
    (case z_list => k_is)
    (case z_tuple => k_is)
    (case z_range => k_is)
    (case z_isinstance => k_is)
    (case z_abs => k_is)
    (case i_gcd => k_is)
