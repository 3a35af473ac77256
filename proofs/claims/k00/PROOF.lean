import PyProof.Rows.All
import Wide.All
import OpenK.AllK
import Wide.FinOn
import HandS.ForMost
import HandS.Walk
import HandS.IsInst
import HandS.Wide
import HandS.Gcd
import HandS.Star
import HandS.Flow
import HandS.EndBits
import HandS.Conv
import HandS.Deep
import HandS.TupAny
import PySem.Challenge.RW_shadowlinks_k00_names_and_merging
set_option Elab.async false
set_option linter.all false
set_option maxRecDepth 100000
set_option maxHeartbeats 4000000
namespace Sl
open PySem PySem.Spec PyProof.Rows L2

/-- a tuple, as it stands or held -/
def isTup : HO → Bool
  | .tup _ => true
  | .frz _ (.tup _) => true
  | _ => false
/-- a new address -/
structure Fr (H : Hp) (p : Addr) : Prop where
  eq : H p = none
/-- all stands but what is at A (tuples stand anyway) -/
def Kp (A : List Addr) (H H' : Hp) : Prop := ∀ a o, H a = some o → (a ∉ A ∨ isTup o = true) → H' a = some o
section
variable {A B : List Addr} {H H' H1 H2 : Hp} {p q a : Addr} {o o' u : HO}
theorem Kp.refl : Kp A H H := fun _ _ h _ => h
theorem Kp.trans (x : Kp A H H1) (y : Kp A H1 H2) : Kp A H H2 := fun a o h k => y a o (x a o h k) k
theorem Kp.sub (x : Kp A H H') (h : ∀ a ∈ A, a ∈ B) : Kp B H H' := fun a o e k => x a o e (k.imp (fun n m => n (h a m)) id)
theorem Kp.nil (x : Kp [] H H') : Kp B H H' := x.sub fun _ h => nomatch h
theorem Kp.of_same (x : Same H H') : Kp A H H' := fun a o h _ => x a o h
theorem Kp.same (x : Kp [] H H') : Same H H' := fun a o h => x a o h (.inl (by simp))
theorem Kp.new (h : H p = none) : Kp A H (upd H p o) := fun a u e _ => by
  rw [upd_ne (ne_of_none e h)]; exact e
theorem Kp.own (h : H p = some o) (t : isTup o = false) (m : p ∈ A) : Kp A H (upd H p o') := fun a u e k => by
  by_cases z : a = p
  · subst z
    rw [h] at e
    cases e
    rcases k with k | k
    · exact absurd m k
    · rw [t] at k; cases k
  · rw [upd_ne z]; exact e
/-- a new one, then changed: nothing that stood is touched -/
theorem Kp.back (h : H p = none) (x : Kp (p :: A) H H') : Kp A H H' := fun a o e k => x a o e (k.imp (fun n => by
  simp only [List.mem_cons, not_or]
  exact ⟨ne_of_none e h, n⟩) id)
/-- a change at what was new -/
theorem Kp.put (x : Kp A H H1) (h : H p = none) : Kp A H (upd H1 p o) := fun a u e k => by
  rw [upd_ne (ne_of_none e h)]; exact x a u e k
theorem Kp.get (x : Kp A H H') (h : H a = some o) (k : a ∉ A ∨ isTup o = true) : H' a = some o := x a o h k
theorem Kp.rd (x : Kp A H H') (h : Rd H a o) (n : a ∉ A) : Rd H' a o := by
  rcases h with h | ⟨z, h⟩
  · exact .inl (x _ _ h (.inl n))
  · exact .inr ⟨z, x _ _ h (.inl n)⟩
theorem Kp.sqT {K : PySem.W.Frag} {xs : List V} (x : Kp A H H') (h : SqT K H a xs) : SqT K H' a xs := by
  rcases h with (h | ⟨z, h⟩) | h
  · exact .inl (.inl (x _ _ h (.inr rfl)))
  · exact .inl (.inr ⟨z, x _ _ h (.inr rfl)⟩)
  · exact .inr h
theorem Kp.sqL {K : PySem.W.Frag} {xs : List V} (x : Kp A H H') (n : a ∉ A) (h : SqL K H a xs) : SqL K H' a xs := by
  rcases h with h | h
  · exact .inl (x.rd h n)
  · exact .inr h
theorem Fr.ne (f : Fr H q) (h : H p = some o) : p ≠ q := ne_of_none h f.eq
theorem ne_kind (h : H p = some o) (h' : H q = some u) (d : o ≠ u) : p ≠ q := ne_of h h' d
end

/-! ### data that stands -/
section
variable (A : List Addr) (K : PySem.W.Frag) (H : Hp)
mutual
inductive Dv : V → PyData → Prop
  | non : Dv .non .none
  | bl (b : Bool) : Dv (.bl b) (.bool b)
  | int (i : Int) : Dv (.int i) (.int i)
  | str (x : Str) : Dv (.str x) (.str x)
  | lst {a : Addr} {xs : List V} {ds : List PyData} : Rd H a (.lst xs) → a ∉ A → DvAll xs ds → Dv (.ref a) (.list ds)
  | tup {a : Addr} {xs : List V} {ds : List PyData} : SqT K H a xs → DvAll xs ds → Dv (.ref a) (.tuple ds)
inductive DvAll : List V → List PyData → Prop
  | nil : DvAll [] []
  | cons {v : V} {vs : List V} {d : PyData} {ds : List PyData} : Dv v d → DvAll vs ds → DvAll (v :: vs) (d :: ds)
end
end
section
variable {A B : List Addr} {K : PySem.W.Frag} {H H' : Hp} {p q a : Addr} {o o' u : HO} {v : V} {d : PyData}
mutual
theorem Dv.kp (k : Kp A H H') : ∀ {v : V} {d : PyData}, Dv A K H v d → Dv A K H' v d
  | _, _, .non => .non
  | _, _, .bl b => .bl b
  | _, _, .int i => .int i
  | _, _, .str x => .str x
  | _, _, .lst h n t => .lst (k.rd h n) n (DvAll.kp k t)
  | _, _, .tup h t => .tup (k.sqT h) (DvAll.kp k t)
theorem DvAll.kp (k : Kp A H H') : ∀ {vs : List V} {ds : List PyData}, DvAll A K H vs ds → DvAll A K H' vs ds
  | _, _, .nil => .nil
  | _, _, .cons h t => .cons (Dv.kp k h) (DvAll.kp k t)
end
mutual
theorem Dv.sub (k : ∀ a ∈ B, a ∈ A) : ∀ {v : V} {d : PyData}, Dv A K H v d → Dv B K H v d
  | _, _, .non => .non
  | _, _, .bl b => .bl b
  | _, _, .int i => .int i
  | _, _, .str x => .str x
  | _, _, .lst h n t => .lst h (fun m => n (k _ m)) (DvAll.sub k t)
  | _, _, .tup h t => .tup h (DvAll.sub k t)
theorem DvAll.sub (k : ∀ a ∈ B, a ∈ A) : ∀ {vs : List V} {ds : List PyData}, DvAll A K H vs ds → DvAll B K H vs ds
  | _, _, .nil => .nil
  | _, _, .cons h t => .cons (Dv.sub k h) (DvAll.sub k t)
end
theorem rd_ne (h : H p = none) (r : Rd H a o) : a ≠ p := by
  rcases r with r | ⟨z, r⟩
  · exact ne_of_none r h
  · exact ne_of_none r h
mutual
/-- a new address is none of the data's -/
theorem Dv.more (h : H p = none) : ∀ {v : V} {d : PyData}, Dv A K H v d → Dv (p :: A) K H v d
  | _, _, .non => .non
  | _, _, .bl b => .bl b
  | _, _, .int i => .int i
  | _, _, .str x => .str x
  | _, _, .lst r n t => .lst r (by simp only [List.mem_cons, not_or]; exact ⟨rd_ne h r, n⟩) (DvAll.more h t)
  | _, _, .tup r t => .tup r (DvAll.more h t)
theorem DvAll.more (h : H p = none) : ∀ {vs : List V} {ds : List PyData}, DvAll A K H vs ds → DvAll (p :: A) K H vs ds
  | _, _, .nil => .nil
  | _, _, .cons r t => .cons (Dv.more h r) (DvAll.more h t)
end
mutual
def flatT : PyData → Bool
  | .list _ => false
  | .dict _ => false
  | .tuple ds => flatTs ds
  | _ => true
def flatTs : List PyData → Bool
  | [] => true
  | d :: ds => flatT d && flatTs ds
end
mutual
theorem Dv.any : ∀ {v : V} {d : PyData}, flatT d = true → Dv A K H v d → Dv B K H v d
  | _, _, _, .non => .non
  | _, _, _, .bl b => .bl b
  | _, _, _, .int i => .int i
  | _, _, _, .str x => .str x
  | _, _, e, .lst r n t => by simp [flatT] at e
  | _, _, e, .tup r t => .tup r (DvAll.any (by simpa [flatT] using e) t)
theorem DvAll.any : ∀ {vs : List V} {ds : List PyData}, flatTs ds = true → DvAll A K H vs ds → DvAll B K H vs ds
  | _, _, _, .nil => .nil
  | _, _, e, .cons r t => by
    simp only [flatTs, Bool.and_eq_true] at e
    exact .cons (Dv.any e.1 r) (DvAll.any e.2 t)
end
theorem flatTs_map {α : Type} {f : α → PyData} (h : ∀ x, flatT (f x) = true) : ∀ xs : List α, flatTs (xs.map f) = true
  | [] => rfl
  | x :: xs => by rw [List.map_cons, flatTs, h x, flatTs_map h xs]; rfl
mutual
theorem Dv.dp : ∀ {v : V} {d : PyData}, Dv A K H v d → Dp K H v d
  | _, _, .non => .non
  | _, _, .bl b => .bl b
  | _, _, .int i => .int i
  | _, _, .str x => .str x
  | _, _, .lst h n t => .lst (.inl h) (DvAll.dp t)
  | _, _, .tup h t => .tup h (DvAll.dp t)
theorem DvAll.dp : ∀ {vs : List V} {ds : List PyData}, DvAll A K H vs ds → DpAll K H vs ds
  | _, _, .nil => .nil
  | _, _, .cons h t => .cons (Dv.dp h) (DvAll.dp t)
end
theorem DvAll.length : ∀ {vs : List V} {ds : List PyData}, DvAll A K H vs ds → vs.length = ds.length
  | _, _, .nil => rfl
  | _, _, .cons _ t => congrArg Nat.succ (DvAll.length t)
theorem DvAll.at : ∀ {vs : List V} {ds : List PyData} {i : Nat} {v : V}, DvAll A K H vs ds → vs[i]? = some v → ∃ d, ds[i]? = some d ∧ Dv A K H v d
  | _, _, i, v, .nil, h => by simp at h
  | _, _, 0, v, .cons h _, e => by cases e; exact ⟨_, rfl, h⟩
  | _, _, i + 1, v, .cons _ t, e => DvAll.at (i := i) t e
theorem DvAll.at' : ∀ {vs : List V} {ds : List PyData} {i : Nat} {d : PyData}, DvAll A K H vs ds → ds[i]? = some d → ∃ v, vs[i]? = some v ∧ Dv A K H v d
  | _, _, i, v, .nil, h => by simp at h
  | _, _, 0, v, .cons h _, e => by cases e; exact ⟨_, rfl, h⟩
  | _, _, i + 1, v, .cons _ t, e => DvAll.at' (i := i) t e
theorem DvAll.app : ∀ {vs ws : List V} {ds es : List PyData}, DvAll A K H vs ds → DvAll A K H ws es → DvAll A K H (vs ++ ws) (ds ++ es)
  | _, _, _, _, .nil, h => h
  | _, _, _, _, .cons h t, r => .cons h (DvAll.app t r)
theorem DvAll.one (h : Dv A K H v d) : DvAll A K H [v] [d] := .cons h .nil
theorem DvAll.snoc {vs : List V} {ds : List PyData} (t : DvAll A K H vs ds) (h : Dv A K H v d) : DvAll A K H (vs ++ [v]) (ds ++ [d]) := t.app (.one h)
theorem DvAll.strs : ∀ {vs : List V} {ss : List Str}, DvAll A K H vs (ss.map .str) → vs = ss.map V.str
  | _, [], .nil => rfl
  | _, s :: ss, .cons h t => by
    cases h
    rw [List.map_cons, DvAll.strs t]
theorem DvAll.ints : ∀ {vs : List V} {ss : List Int}, DvAll A K H vs (ss.map .int) → vs = ss.map V.int
  | _, [], .nil => rfl
  | _, s :: ss, .cons h t => by
    cases h
    rw [List.map_cons, DvAll.ints t]
theorem dv_strs : ∀ (ss : List Str), DvAll A K H (ss.map V.str) (ss.map .str)
  | [] => .nil
  | s :: ss => .cons (.str s) (dv_strs ss)
theorem dv_ints : ∀ (ss : List Int), DvAll A K H (ss.map V.int) (ss.map .int)
  | [] => .nil
  | s :: ss => .cons (.int s) (dv_ints ss)
theorem Dv.tup_inv {ds : List PyData} (h : Dv A K H v (.tuple ds)) : ∃ a xs, v = .ref a ∧ SqT K H a xs ∧ DvAll A K H xs ds := by
  cases h with
  | tup r t => exact ⟨_, _, rfl, r, t⟩
theorem Dv.lst_inv {ds : List PyData} (h : Dv A K H v (.list ds)) : ∃ a xs, v = .ref a ∧ Rd H a (.lst xs) ∧ a ∉ A ∧ DvAll A K H xs ds := by
  cases h with
  | lst r n t => exact ⟨_, _, rfl, r, n, t⟩
theorem Dv.str_inv {s : Str} (h : Dv A K H v (.str s)) : v = .str s := by cases h; rfl
theorem Dv.int_inv {s : Int} (h : Dv A K H v (.int s)) : v = .int s := by cases h; rfl
theorem Dv.bl_inv {s : Bool} (h : Dv A K H v (.bool s)) : v = .bl s := by cases h; rfl
theorem Dv.non_inv (h : Dv A K H v .none) : v = .non := by cases h; rfl
end

theorem sz {n : Nat} (h : n ≤ 100000) : n ≤ sizeLine := Nat.le_trans h (by decide)
theorem szl {n : Nat} (h : n < 100000) : n < sizeLine := Nat.lt_of_lt_of_le h (by decide)
/-! ### the source of draws -/
def Src (H : Hp) (a : Addr) : Prop := ∃ n c : Int, H a = some (.lst [.int n, .int c])
theorem Src.kp {A : List Addr} {H H' : Hp} {a : Addr} (k : Kp A H H') (n : a ∉ A) (h : Src H a) : Src H' a := by
  obtain ⟨x, y, e⟩ := h
  exact ⟨x, y, k _ _ e (.inl n)⟩
end Sl
namespace Sl
open PySem PySem.Spec PyProof.Rows L2
section
variable {X : Cx} {CX : CXT} {k : Nat} {f : Addr} {sp : Sp} {E : XK} {x : Str} {e : Expr} {es : List Expr} {t : TA} {p pos : Pos}
/-- f(e, ..), f of any binding, by a positional promise -/
theorem pe_callF (F : FnR X.prog X.w X.K X.mg X.base CX k f sp) (hr : Room k X.A) (hk : PySem.W.keepIn X.K (.ref f) = true) (hg : Gl X x) (hm : X.mg x = some (.ref f)) (hx : Passes CX X E) (ha : PA X (e :: es) t) (hdb : (x == ("__debug__" : Str)) = false := by decide)
    (he : starEach (e :: es) X.env = (false, eval e X.env) :: starEach es X.env := by rfl) (hpl : (backTo pos (starEach es X.env)).any (·.1) = false := by rfl) :
    PE X (.Call (.Name x p) (e :: es) [] pos) (fun σ H Q => t σ H fun vs H1 => sp vs H1 Q E) := by
  refine ⟨fun pins s σ H Q I h => ?_⟩
  refine wpAny_Call_Name_kw (ld_glob I hg hm ?_ hdb)
  refine PySem.W.callWith_K (h₀ := X.base) I.ok.mod.kin hk (thn (ha.run pos pins s σ H _ I h) fun us s1 ⟨vs, H1, I1, r, q⟩ => ⟨I1.kIn, ?_⟩) he hpl
  exact wpAny_call (run_fnR F hr hx I1 r q)
/-- f(), f of any binding -/
theorem pe_callF0 (F : FnR X.prog X.w X.K X.mg X.base CX k f sp) (hr : Room k X.A) (hg : Gl X x) (hm : X.mg x = some (.ref f)) (hk : PySem.W.keepIn X.K (.ref f) = true) (hx : Passes CX X E)
    (hdb : (x == ("__debug__" : Str)) = false := by decide) : PE X (.Call (.Name x p) [] [] pos) (fun _ H Q => sp [] H Q E) := by
  refine ⟨fun pins s σ H Q I h => ?_⟩
  refine wpAny_Call_Name_kw (ld_glob I hg hm ?_ hdb)
  exact PySem.W.callWith_K0 I.kIn hk (wpAny_call (run_fnR F hr hx I .nil h))
/-- def f(.., *v): n written, the rest a new tuple -/
def star (n : Nat) (sp : Sp) : Sp := fun vs H Q E => ∃ ws rest, vs = ws ++ rest ∧ ws.length = n ∧ rest.length ≤ sizeLine ∧ ∀ p, H p = Option.none → sp (ws ++ [V.ref p]) (upd H p (.tup rest)) Q E
end
end Sl
namespace Sl
open PySem PySem.Spec PyProof.Rows L2
/-! ### two readings of one term -/
section
variable {X : Cx}
theorem pi_or {tg e : Expr} {w1 w2 : TI} (h1 : PI X tg e w1) (h2 : PI X tg e w2) : PI X tg e (fun σ H R => w1 σ H R ∨ w2 σ H R) :=
  ⟨fun pins s σ H R I h => h.elim (h1.run pins s σ H R I) (h2.run pins s σ H R I)⟩
theorem pe_or2 {e : Expr} {t1 t2 : TE} (h1 : PE X e t1) (h2 : PE X e t2) : PE X e (fun σ H Q => t1 σ H Q ∨ t2 σ H Q) :=
  ⟨fun pins s σ H R I h => h.elim (h1.run pins s σ H R I) (h2.run pins s σ H R I)⟩
theorem pt_or2 {e : Expr} {t1 t2 : TT} (h1 : PT X e t1) (h2 : PT X e t2) : PT X e (fun σ H Q => t1 σ H Q ∨ t2 σ H Q) :=
  ⟨fun pins s σ H R I h => h.elim (h1.run pins s σ H R I) (h2.run pins s σ H R I)⟩
theorem op_or2 {f : Value → Value → Sem Value} {r1 r2 : R2} (h1 : OpR X f r1) (h2 : OpR X f r2) : OpR X f (fun x y H Q => r1 x y H Q ∨ r2 x y H Q) :=
  fun pins s σ H x y v u Q I rx ry h => h.elim (h1 pins s σ H x y v u Q I rx ry) (h2 pins s σ H x y v u Q I rx ry)
theorem cr_or2 {f : Value} {r1 r2 : List V → Hp → VK → Prop} (h1 : CallR X f r1) (h2 : CallR X f r2) : CallR X f (fun xs H Q => r1 xs H Q ∨ r2 xs H Q) :=
  fun pins s σ H xs us Q I r h => h.elim (h1 pins s σ H xs us Q I r) (h2 pins s σ H xs us Q I r)
end
theorem nox_ex {X : Cx} {b : List Stmt} {R : TS → Prop} (h : ∃ t, PSs X.nox b t ∧ R t) : ∃ t, PSs X b t ∧ R t := by
  obtain ⟨t, h1, h2⟩ := h
  exact ⟨t, h1.nox, h2⟩
/-! ### texts in ascending order -/
def slt (a b : Str) : Prop := TL.tl a < TL.tl b
instance (a b : Str) : Decidable (slt a b) := inferInstanceAs (Decidable (TL.tl a < TL.tl b))
theorem ltCps_iff : ∀ a b : List Nat, ltCps a b = true ↔ a < b
  | [], [] => by simp [ltCps]
  | [], b :: bs => by simp [ltCps]
  | a :: as, [] => by simp [ltCps]
  | a :: as, b :: bs => by
    have ih := ltCps_iff as bs
    simp only [ltCps, List.cons_lt_cons_iff, Bool.or_eq_true, Bool.and_eq_true, decide_eq_true_eq, beq_iff_eq, ih]
theorem slt_trans {a b c : Str} (h : slt a b) (h' : slt b c) : slt a c := List.lt_trans h h'
theorem slt_irrefl (a : Str) : ¬ slt a a := List.lt_irrefl _
theorem slt_tri (a b : Str) : slt a b ∨ a = b ∨ slt b a := by
  by_cases h : slt a b
  · exact .inl h
  · by_cases h' : slt b a
    · exact .inr (.inr h')
    · exact .inr (.inl (TL.ext_tl (List.le_antisymm (List.not_lt.mp h') (List.not_lt.mp h))))
theorem slt_asymm {a b : Str} (h : slt a b) : ¬ slt b a := fun h' => slt_irrefl _ (slt_trans h h')
/-- strictly ascending -/
def Asc (l : List Str) : Prop := l.Pairwise slt
theorem rising_pw : ∀ (p : Str) (l : List Str), risingS p l = true → (p :: l).Pairwise (fun a b => ¬ slt b a)
  | p, [], _ => List.pairwise_singleton _ _
  | p, x :: r, h => by
    simp only [risingS, Bool.and_eq_true, Bool.not_eq_true'] at h
    have ih := rising_pw x r h.2
    have hpx : ¬ slt x p := fun z => by rw [(ltCps_iff _ _).mpr z] at h; exact Bool.noConfusion h.1
    refine List.pairwise_cons.mpr ⟨fun y hy => ?_, ih⟩
    rcases List.mem_cons.mp hy with e | e
    · subst e; exact hpx
    · intro z
      have hxy := (List.pairwise_cons.mp ih).1 y e
      rcases slt_tri x y with q | q | q
      · exact hpx (slt_trans q z)
      · subst q; exact hpx z
      · exact hxy q
theorem asc_of_sorted {l : List Str} (h : sortedS l = true) (nd : l.Nodup) : Asc l := by
  cases l with
  | nil => exact List.Pairwise.nil
  | cons x r =>
    have hp := rising_pw x r h
    refine List.Pairwise.imp₂ (fun a b h1 h2 => ?_) hp nd
    rcases slt_tri a b with q | q | q
    · exact q
    · exact absurd q h2
    · exact absurd q h1
theorem Asc.nodup {l : List Str} (h : Asc l) : l.Nodup := h.imp fun q e => by subst e; exact slt_irrefl _ q
/-- ascending lists with the same members are one -/
theorem Asc.ext : ∀ {l m : List Str}, Asc l → Asc m → (∀ x, x ∈ l ↔ x ∈ m) → l = m
  | [], [], _, _, _ => rfl
  | [], y :: m, _, _, h => absurd ((h y).mpr (List.mem_cons_self ..)) List.not_mem_nil
  | x :: l, [], _, _, h => absurd ((h x).mp (List.mem_cons_self ..)) List.not_mem_nil
  | x :: l, y :: m, hl, hm, h => by
    have h1 := List.pairwise_cons.mp hl
    have h2 := List.pairwise_cons.mp hm
    have e : x = y := by
      rcases List.mem_cons.mp ((h x).mp (List.mem_cons_self ..)) with e | e
      · exact e
      · rcases List.mem_cons.mp ((h y).mpr (List.mem_cons_self ..)) with e' | e'
        · exact e'.symm
        · exact absurd (slt_trans (h2.1 x e) (h1.1 y e')) (slt_irrefl _)
    subst e
    rw [Asc.ext h1.2 h2.2 fun z => ?_]
    constructor
    · intro hz
      rcases List.mem_cons.mp ((h z).mp (List.mem_cons_of_mem _ hz)) with e | e
      · subst e; exact absurd (h1.1 _ hz) (slt_irrefl _)
      · exact e
    · intro hz
      rcases List.mem_cons.mp ((h z).mpr (List.mem_cons_of_mem _ hz)) with e | e
      · subst e; exact absurd (h2.1 _ hz) (slt_irrefl _)
      · exact e
/-- a list or a tuple -/
def Sq (K : PySem.W.Frag) (H : Hp) (a : Addr) (xs : List V) : Prop := SqL K H a xs ∨ SqT K H a xs
/-- one for each -/
def All2 {α β : Type} (R : α → β → Prop) : List α → List β → Prop
  | [], [] => True
  | x :: xs, y :: ys => R x y ∧ All2 R xs ys
  | _, _ => False
theorem All2.at {α β : Type} {R : α → β → Prop} : ∀ {xs : List α} {ys : List β} {i : Nat} {x : α}, All2 R xs ys → xs[i]? = some x → ∃ y, ys[i]? = some y ∧ R x y
  | [], _, _, _, _, e => by simp at e
  | x :: xs, [], _, _, h, _ => False.elim h
  | x :: xs, y :: ys, 0, _, h, e => by cases e; exact ⟨y, rfl, h.1⟩
  | x :: xs, y :: ys, i + 1, _, h, e => All2.at (i := i) h.2 e
theorem All2.length {α β : Type} {R : α → β → Prop} : ∀ {xs : List α} {ys : List β}, All2 R xs ys → xs.length = ys.length
  | [], [], _ => rfl
  | [], _ :: _, h => False.elim h
  | _ :: _, [], h => False.elim h
  | x :: xs, y :: ys, h => congrArg Nat.succ (All2.length h.2)
theorem All2.imp {α β : Type} {R S : α → β → Prop} (k : ∀ x y, R x y → S x y) : ∀ {xs : List α} {ys : List β}, All2 R xs ys → All2 S xs ys
  | [], [], _ => trivial
  | [], _ :: _, h => False.elim h
  | _ :: _, [], h => False.elim h
  | x :: xs, y :: ys, h => ⟨k _ _ h.1, All2.imp k h.2⟩
theorem All2.snoc {α β : Type} {R : α → β → Prop} : ∀ {xs : List α} {ys : List β} {x : α} {y : β}, All2 R xs ys → R x y → All2 R (xs ++ [x]) (ys ++ [y])
  | [], [], _, _, _, h => ⟨h, trivial⟩
  | [], _ :: _, _, _, h, _ => False.elim h
  | _ :: _, [], _, _, h, _ => False.elim h
  | x :: xs, y :: ys, _, _, h, k => ⟨h.1, All2.snoc h.2 k⟩
end Sl
namespace Sl
open PySem PySem.Spec PyProof.Rows L2
/-! ### tests whose answer is told -/
/-- the answer is b, the heap stands -/
def An (t : TT) (σ : L2.St) (H : Hp) (b : Bool) : Prop := ∀ Q : Bool → Hp → Prop, Q b H → t σ H Q
/-- the value is v, the heap stands -/
def Vl (t : TE) (σ : L2.St) (H : Hp) (v : V) : Prop := ∀ Q : VK, Q v H → t σ H Q
section
variable {σ : L2.St} {H : Hp} {t u c : TT} {a b : Bool} {ta tb : TE} {x y z v : V} {D : Ends} {t1 t2 s2 : TS}
theorem an_and (h1 : An t σ H a) (h2 : a = true → An u σ H b) : An (tAnd t u) σ H (a && b) := fun Q q => by
  refine h1 _ ?_
  cases a with
  | true => exact h2 rfl Q q
  | false => exact q
theorem an_or (h1 : An t σ H a) (h2 : a = false → An u σ H b) : An (tOr t u) σ H (a || b) := fun Q q => by
  refine h1 _ ?_
  cases a with
  | true => exact q
  | false => exact h2 rfl Q q
theorem an_not (h1 : An t σ H a) : An (tNot t) σ H (!a) := fun Q q => h1 _ q
theorem an_cmp {r : R2} (h1 : Vl ta σ H x) (h2 : Vl tb σ H y) (hr : ∀ Q : VK, Q (.bl b) H → r x y H Q) : An (tTest (tOp r ta tb)) σ H b := fun Q q => h1 _ (h2 _ (hr _ ⟨b, rfl, q⟩))
theorem an_val (h1 : Vl ta σ H (.bl b)) : An (tB ta) σ H b := fun Q q => h1 _ ⟨b, rfl, q⟩
theorem an_test (h1 : Vl ta σ H (.bl b)) : An (tTest ta) σ H b := fun Q q => h1 _ ⟨b, rfl, q⟩
theorem vl_var {i : Nat} (h : σ[i]? = some (some v)) : Vl (tVar i) σ H v := fun Q q => ⟨v, h, q⟩
theorem vl_c : Vl (tC v) σ H v := fun Q q => q
theorem vl_op {r : R2} (h1 : Vl ta σ H x) (h2 : Vl tb σ H y) (hr : ∀ Q : VK, Q z H → r x y H Q) : Vl (tOp r ta tb) σ H z := fun Q q => h1 _ (h2 _ (hr _ q))
theorem vl_un {r : V → Hp → VK → Prop} (h1 : Vl ta σ H x) (hr : ∀ Q : VK, Q z H → r x H Q) : Vl (tUn r ta) σ H z := fun Q q => h1 _ (hr _ q)
theorem vl_cb1 {r : List V → Hp → VK → Prop} (h1 : Vl ta σ H x) (hr : ∀ Q : VK, Q z H → r [x] H Q) : Vl (tCB r (tCons ta tNil)) σ H z := fun Q q => h1 _ (hr _ q)
theorem vl_cb2 {r : List V → Hp → VK → Prop} (h1 : Vl ta σ H x) (h2 : Vl tb σ H y) (hr : ∀ Q : VK, Q z H → r [x, y] H Q) : Vl (tCB r (tCons ta (tCons tb tNil))) σ H z := fun Q q => h1 _ (h2 _ (hr _ q))
theorem vl_chain {r r' : R2} {tc : TE} {w : V} (h1 : Vl ta σ H x) (h2 : Vl tb σ H y) (h3 : a = true → Vl tc σ H w) (hr : ∀ Q : VK, Q (.bl a) H → r x y H Q) (hr' : a = true → ∀ Q : VK, Q (.bl b) H → r' y w H Q) : Vl (tChain r r' ta tb tc) σ H (.bl (a && b)) := fun Q q => by
  refine h1 _ (h2 _ (hr _ ⟨a, rfl, ?_⟩))
  cases a with
  | true => exact h3 rfl _ (hr' rfl _ q)
  | false => exact q
theorem vl_not (h1 : Vl ta σ H (.bl a)) : Vl (tNotV ta) σ H (.bl (!a)) := fun Q q => h1 _ ⟨a, rfl, q⟩
theorem vl_andV (h1 : Vl ta σ H (.bl a)) (h2 : a = true → Vl tb σ H (.bl b)) : Vl (tAndV ta tb) σ H (.bl (a && b)) := fun Q q => h1 _ ⟨a, rfl, by
  cases a with
  | true => exact h2 rfl _ q
  | false => exact q⟩
theorem vl_orV (h1 : Vl ta σ H (.bl a)) (h2 : a = false → Vl tb σ H (.bl b)) : Vl (tOrV ta tb) σ H (.bl (a || b)) := fun Q q => h1 _ ⟨a, rfl, by
  cases a with
  | true => exact q
  | false => exact h2 rfl _ q⟩
theorem if_an (h : An c σ H b) (k1 : b = true → t1 D σ H) (k2 : b = false → t2 D σ H) : tIfS c t1 t2 D σ H := by
  refine h _ ?_
  cases b with
  | true => exact k1 rfl
  | false => exact k2 rfl
theorem seq_if (h : An c σ H b) (k1 : b = true → t1 { D with nx := s2 D } σ H) (k2 : b = false → t2 { D with nx := s2 D } σ H) : tSeq (tIfS c t1 t2) s2 D σ H := if_an h k1 k2
theorem seq_if0 (h : An c σ H b) (k1 : b = true → t1 { D with nx := s2 D } σ H) (k2 : b = false → s2 D σ H) : tSeq (tIfS c t1 tNext) s2 D σ H := if_an h k1 k2
theorem seq_ifK0 (h : t σ H fun b H' => if b = true then t1 { D with nx := s2 D } σ H' else s2 D σ H') : tSeq (tIfS t t1 tNext) s2 D σ H := h
theorem seq_set {i : Nat} (h : Vl ta σ H v) (k : s2 D (σ.set i (some v)) H) : tSeq (tAsg ta (gName i)) s2 D σ H := h _ k
theorem seq_setK {i : Nat} (h : ta σ H fun v H' => s2 D (σ.set i (some v)) H') : tSeq (tAsg ta (gName i)) s2 D σ H := h
theorem setK {i : Nat} (h : ta σ H fun v H' => D.nx (σ.set i (some v)) H') : tAsg ta (gName i) D σ H := h
theorem seq_dropK (h : ta σ H fun _ H' => s2 D σ H') : tSeq (tDrop ta) s2 D σ H := h
theorem dropK' (h : ta σ H fun _ H' => D.nx σ H') : tDrop ta D σ H := h
theorem retK (h : ta σ H D.rt) : tRet ta D σ H := h
theorem if_anK (h : t σ H fun b H' => if b = true then t1 D σ H' else t2 D σ H') : tIfS t t1 t2 D σ H := h
theorem seq_ifK (h : t σ H fun b H' => if b = true then t1 { D with nx := s2 D } σ H' else t2 { D with nx := s2 D } σ H') : tSeq (tIfS t t1 t2) s2 D σ H := h
theorem seq_forK {wi : TI} {g : TG} {tb : TS} (h : tFor wi g tb { D with nx := s2 D } σ H) : tSeq (tFor wi g tb) s2 D σ H := h
theorem gnK {i : Nat} {v : V} {Q : L2.St → Hp → Prop} (h : Q (σ.set i (some v)) H) : gName i v σ H Q := h
theorem yesK {Q : Bool → Hp → Prop} (h : Q true H) : tYes σ H Q := h
theorem nextK (h : D.nx σ H) : tNext D σ H := h
theorem ret_vl (h : Vl ta σ H v) (k : D.rt v H) : tRet ta D σ H := h _ k
theorem An.to (h : An t σ H a) (e : a = b) : An t σ H b := e ▸ h
theorem Vl.to (h : Vl ta σ H x) (e : x = y) : Vl ta σ H y := e ▸ h
end
/-- a for and what stands behind it -/
theorem for_seq {J : It} {n : Nat} {G : Hp → Prop} {Y : Nat → Hp → V → Hp → Prop} (w : Walk J n G Y) {g : TG} {tb s2 : TS} {D : Ends} {σ : L2.St} {H : Hp} (Pv : Nat → L2.St → Hp → Prop) (h0 : Pv 0 σ H) (hG : ∀ i σ H, i ≤ n → Pv i σ H → G H)
    (hs : ∀ i x σ H H', i < n → Pv i σ H → Y i H x H' → g x σ H' fun σ2 H2 => tb { D with nx := Pv (i + 1), ct := Pv (i + 1), bk := s2 D } σ2 H2) (hd : ∀ σ H, Pv n σ H → s2 D σ H) :
    ∃ W : Nat → Nat → L2.St → Hp → Prop, (∃ m, W 0 m σ H) ∧ ∀ i m σ H, W i m σ H →
      (J.stop i H ∧ (Ends.mk (s2 D) D.rt D.bk D.ct).nx σ H) ∨ (J.go i H ∧ ∃ N : L2.St → Hp → Prop, (∀ σ' H', N σ' H' → ∃ m', m' < m ∧ W (i + 1) m' σ' H') ∧ ∀ x H', J.yld i H x H' → g x σ H' fun σ2 H2 => tb { (Ends.mk (s2 D) D.rt D.bk D.ct) with nx := N, ct := N, bk := (Ends.mk (s2 D) D.rt D.bk D.ct).nx } σ2 H2) :=
  for_it (D := Ends.mk (s2 D) D.rt D.bk D.ct) w Pv h0 hG hs hd
/-- one sign of a text -/
theorem sign_at {z : Str} {r : Int} (h0 : 0 ≤ r) (h1 : r < z.length) : ∃ c, atI z.cps.toList r = some c ∧ c ∈ TL.tl z := by
  obtain ⟨n, rfl⟩ := Int.eq_ofNat_of_zero_le h0
  have h : n < z.cps.toList.length := by
    have e : z.length = z.cps.toList.length := TL.len_tl z
    omega
  exact ⟨z.cps.toList[n], atI_nat (by simp), List.getElem_mem h⟩
end Sl
namespace Sl
open PySem PySem.Spec PyProof.Rows L2
/-! ### data of written depth -/
/-- all signs are signs -/
def okS (s : Str) : Prop := ∀ c ∈ TL.tl s, c < 1114112
theorem okS.ok {s : Str} (h : okS s) : PyData.canLay0 (.str s) = true := by
  show PyData.strOk s = true
  unfold PyData.strOk
  rw [Array.all_eq_true']
  intro c hc
  simpa using h c (Array.mem_toList_iff.mpr hc)
theorem lay_map {α : Type} {f : α → PyData} : ∀ {xs : List α}, (∀ x ∈ xs, (f x).canLay0 = true) → PyData.canLayAll0 (xs.map f) = true
  | [], _ => rfl
  | x :: xs, h => by
    rw [List.map_cons, PyData.canLayAll0, h x (List.mem_cons_self ..), lay_map fun y hy => h y (List.mem_cons_of_mem _ hy)]; rfl
theorem depth_map {α : Type} {f : α → PyData} {k : Nat} : ∀ {xs : List α}, (∀ x ∈ xs, (f x).depth ≤ k) → PyData.depthAll (xs.map f) ≤ k
  | [], _ => Nat.zero_le _
  | x :: xs, h => by
    rw [List.map_cons, PyData.depthAll]
    have h1 := h x (List.mem_cons_self ..)
    have h2 := depth_map (k := k) (xs := xs) fun y hy => h y (List.mem_cons_of_mem _ hy)
    omega
theorem shaped_of {d : PyData} (h : d.canLay0 = true) (h' : d.depth ≤ 64) : SeqAt.shaped d = true := by
  unfold SeqAt.shaped
  rw [h, decide_eq_true h']; rfl
theorem inV_strs {s : Str} : ∀ {ys : List Str}, inV (.str s) (ys.map V.str) = decide (s ∈ ys)
  | [] => rfl
  | y :: ys => by
    have ih := inV_strs (s := s) (ys := ys)
    unfold inV at ih ⊢
    rw [List.map_cons, List.any_cons, ih]
    show (y == s || decide (s ∈ ys)) = decide (s ∈ y :: ys)
    by_cases e : s = y
    · subst e; simp
    · have : (y == s) = false := by simp [Ne.symm e]
      rw [this]; simp [e]
theorem flat_strs (ys : List Str) : (ys.map V.str).all flatV = true := by
  rw [List.all_eq_true]
  intro v hv
  obtain ⟨s, _, rfl⟩ := List.mem_map.mp hv
  rfl
end Sl
namespace Sl
open PySem PySem.Spec PyProof.Rows L2
/-! ### rules by K alone (they go into a comprehension's block) -/
def rListOf (K : PySem.W.Frag) : List V → Hp → VK → Prop := fun xs H Q => ∃ p ys, xs = [.ref p] ∧ (SqL K H p ys ∨ SqT K H p ys) ∧ ∀ l, H l = none → Q (.ref l) (upd H l (.lst ys))
def rTupleOf (K : PySem.W.Frag) : List V → Hp → VK → Prop := fun xs H Q => ∃ p ys, xs = [.ref p] ∧ ((SqL K H p ys ∧ ∀ l, H l = none → Q (.ref l) (upd H l (.tup ys))) ∨ (SqT K H p ys ∧ Q (.ref p) H))
def rLenK (K : PySem.W.Frag) : List V → Hp → VK → Prop := fun xs H Q => ∃ x n, xs = [x] ∧ LenV K x H n ∧ Q (.int (n : Nat)) H
section
variable {X : Cx} {K : PySem.W.Frag}
theorem cK_list (e : X.K = K) : CallR X (.type "list") (rListOf K) := by subst e; exact call_list_of
theorem cK_tuple (e : X.K = K) : CallR X (.type "tuple") (rTupleOf K) := by subst e; exact call_tuple_of
theorem cK_len (e : X.K = K) : CallR X (.builtin "len") (rLenK K) := by subst e; exact call_len
theorem cK_isi (e : X.K = K) : CallR X (.builtin "isinstance") (rIsi K) := by subst e; exact call_isi
theorem cK_isiT (e : X.K = K) : CallR X (.builtin "isinstance") (rIsiT K) := by subst e; exact call_isiT
theorem cK_sortedS (e : X.K = K) : CallR X (.builtin "sorted") (rSortedS K) := by subst e; exact cr_sortedS
theorem xK_list (e : X.K = K) : IxR X (rIxL K) := by subst e; exact ix_list
theorem xK_tup (e : X.K = K) : IxR X (rIxT K) := by subst e; exact ix_tup
theorem xK_seq (e : X.K = K) : IxR X (rIx K) := by subst e; exact ix_seq
theorem oK_in (e : X.K = K) : OpR X (compareOp .In) (rIn K false) := by subst e; exact op_in_seq
theorem oK_nin (e : X.K = K) : OpR X (compareOp .NotIn) (rIn K true) := by subst e; exact op_notIn_seq
theorem oK_eqD (e : X.K = K) (hu : X.A.units + 64 < cLine) : OpR X (compareOp .Eq) (rEqD K) := by subst e; exact op_eqD hu
theorem oK_neD (e : X.K = K) (hu : X.A.units + 64 < cLine) : OpR X (compareOp .NotEq) (rNeD K) := by subst e; exact op_neD hu
theorem iK_list {tg l : Expr} {tl : TE} (e : X.K = K) (hl : PE X l tl) : PI X tg l (iList K tl) := by subst e; exact pi_list hl
theorem iK_tup {tg l : Expr} {tl : TE} (e : X.K = K) (hl : PE X l tl) : PI X tg l (iTup K tl) := by subst e; exact pi_tup hl
end
end Sl
namespace Sl
open PySem PySem.Spec PyProof.Rows L2
local macro_rules | `(tactic| walk_at "nin") => `(tactic| first | assumption | exact List.not_mem_nil | (simp only [List.mem_cons, List.not_mem_nil, not_or, or_false, not_false_eq_true, and_true]; first | assumption | walk_at "ne" | (refine ⟨?_, ?_⟩ <;> walk_at "ne") | (refine ⟨?_, ?_, ?_⟩ <;> walk_at "ne")))
local macro_rules | `(tactic| walk_at "ne") => `(tactic| first | assumption | exact Ne.symm (by assumption) | (refine Fr.ne ?_ ?_ <;> first | assumption | walk_at "hp") | (refine Ne.symm (Fr.ne ?_ ?_) <;> first | assumption | walk_at "hp"))
local macro_rules | `(tactic| walk_at "hp") => `(tactic| first
  | assumption
  | exact upd_same
  | (refine Eq.trans (upd_ne ?_) ?_ <;> first | walk_at "hp" | walk_at "ne")
  | (refine Kp.get (by assumption) ?_ ?_ <;> first | walk_at "hp" | exact .inr rfl | exact .inl List.not_mem_nil | (refine .inl ?_; walk_at "nin")))
local macro_rules | `(tactic| walk_at "sl") => `(tactic| first | assumption | (refine .inl (.inl ?_); walk_at "hp") | (refine Kp.sqL (by assumption) ?_ ?_ <;> first | walk_at "sl" | walk_at "nin") | (refine Kp.sqL (Kp.new (by assumption)) (A := []) List.not_mem_nil ?_; walk_at "sl"))
local macro_rules | `(tactic| walk_at "rd") => `(tactic| first
  | refine ⟨_, rfl, ?_⟩
  | refine ⟨_, _, rfl, rfl, ?_⟩
  | refine ⟨_, _, rfl, rfl, (by first | decide | omega), ?_⟩
  | refine .inl ⟨_, rfl, ?_⟩
  | refine ⟨rfl, ?_⟩
  | refine ⟨_, _, _, _, rfl, rfl, (by walk_at "sl"), rfl, ?_⟩)
local macro_rules | `(tactic| walk_at "rds") => `(tactic| repeat (walk_at "rd"))
local macro_rules | `(tactic| walk_at "vl") => `(tactic| first
  | exact vl_c
  | exact vl_var rfl
  | (refine' vl_op ?h1 ?h2 ?h3; (case h1 => walk_at "vl"); (case h2 => walk_at "vl"); (case h3 => walk_at "rl"))
  | (refine' vl_un ?h1 ?h3; (case h1 => walk_at "vl"); (case h3 => walk_at "rl"))
  | (refine' vl_cb1 ?h1 ?h3; (case h1 => walk_at "vl"); (case h3 => walk_at "rl"))
  | (refine' vl_cb2 ?h1 ?h2 ?h3; (case h1 => walk_at "vl"); (case h2 => walk_at "vl"); (case h3 => walk_at "rl"))
  | (refine' vl_not ?h1; (case h1 => walk_at "vl"))
  | (refine' vl_andV ?h1 ?h2; (case h1 => walk_at "vl"); (case h2 => intro _; walk_at "vl"))
  | (refine' vl_orV ?h1 ?h2; (case h1 => walk_at "vl"); (case h2 => intro _; walk_at "vl"))
  | (refine' vl_chain ?h1 ?h2 ?h3 ?h4 ?h5; (case h1 => walk_at "vl"); (case h2 => walk_at "vl"); (case h4 => walk_at "rl"); (case h3 => intro _; walk_at "vl"); (case h5 => intro _; walk_at "rl")))
local macro_rules | `(tactic| walk_at "rl") => `(tactic| (intro Q' q'; first
  | exact ⟨_, _, rfl, rfl, q'⟩
  | exact ⟨rfl, q'⟩
  | exact ⟨_, rfl, q'⟩
  | exact .inl ⟨_, rfl, q'⟩
  | exact ⟨_, rfl, (by first | assumption | exact sz (by assumption) | exact sz (by omega)), q'⟩
  | exact ⟨_, _, rfl, rfl, (by first | assumption | exact ⟨by omega, by omega⟩ | (show (0 : Int) < _; omega) | exact .inl ⟨by omega, by omega⟩ | exact .inr ⟨by omega, by omega⟩), q'⟩))
local macro_rules | `(tactic| walk_at "an") => `(tactic| first
  | (refine' an_and ?h1 ?h2; (case h1 => walk_at "an"); (case h2 => intro _; walk_at "an"))
  | (refine' an_or ?h1 ?h2; (case h1 => walk_at "an"); (case h2 => intro _; walk_at "an"))
  | (refine' an_not ?h1; (case h1 => walk_at "an"))
  | (refine' an_cmp ?h1 ?h2 ?h3; (case h1 => walk_at "vl"); (case h2 => walk_at "vl"); (case h3 => walk_at "rl"))
  | (refine' an_val ?h1; (case h1 => walk_at "vl"))
  | (refine' an_test ?h1; (case h1 => walk_at "vl")))
local macro_rules | `(tactic| walk_at "if") => `(tactic| ((try refine gnK ?_); (first | refine' seq_if0 ?h ?k1 ?k2 | refine' seq_if ?h ?k1 ?k2 | refine' if_an ?h ?k1 ?k2); (case h => walk_at "an")))
local macro_rules | `(tactic| walk_at "st") => `(tactic| ((try refine gnK ?_); first | refine seq_setK ?_ | refine setK ?_ | refine seq_dropK ?_ | refine dropK' ?_ | refine seq_ifK0 ?_ | refine seq_ifK ?_ | refine if_anK ?_ | refine retK ?_ | refine nextK ?_))
/-! ### plain and full names -/
def isLet (c : Nat) : Bool := decide (97 ≤ c) && decide (c ≤ 122)
def isDig (c : Nat) : Bool := decide (48 ≤ c) && decide (c ≤ 57)
theorem mem_let (c : Nat) : decide (c ∈ ("abcdefghijklmnopqrstuvwxyz" : Str).cps.toList) = isLet c := by
  have e : ("abcdefghijklmnopqrstuvwxyz" : Str).cps.toList = [97, 98, 99, 100, 101, 102, 103, 104, 105, 106, 107, 108, 109, 110, 111, 112, 113, 114, 115, 116, 117, 118, 119, 120, 121, 122] := by decide +kernel
  rw [e, isLet, ← Bool.decide_and, decide_eq_decide]
  simp only [List.mem_cons, List.not_mem_nil, or_false]
  omega
theorem mem_dig (c : Nat) : decide (c ∈ ("0123456789" : Str).cps.toList) = isDig c := by
  have e : ("0123456789" : Str).cps.toList = [48, 49, 50, 51, 52, 53, 54, 55, 56, 57] := by decide +kernel
  rw [e, isDig, ← Bool.decide_and, decide_eq_decide]
  simp only [List.mem_cons, List.not_mem_nil, or_false]
  omega
theorem dig_let {c : Nat} (h : isDig c = true) : isLet c = false := by
  simp only [isDig, isLet, Bool.and_eq_true, decide_eq_true_eq, Bool.and_eq_false_iff, decide_eq_false_iff_not] at *
  omega
def nameL : List Nat → Bool
  | [] => false
  | c :: r => isLet c && ((c :: r).all (fun c => isLet c || isDig c) && decide ((c :: r).length ≤ 8))
def isName (s : Str) : Bool := nameL (TL.tl s)
theorem isName_len {s : Str} (h : isName s = true) : 1 ≤ s.length ∧ s.length ≤ 8 := by
  unfold isName at h
  rw [TL.len_tl]
  cases e : TL.tl s with
  | nil => rw [e] at h; cases h
  | cons c r =>
    rw [e] at h
    simp only [nameL, Bool.and_eq_true, decide_eq_true_eq] at h
    exact ⟨by simp, h.2.2⟩
theorem isName_at {s : Str} {c : Nat} (h : s.cps[0]? = some c) (hl : s.length ≤ 8) : isName s = (isLet c && (TL.tl s).all (fun c => isLet c || isDig c)) := by
  unfold isName
  rw [TL.len_tl] at hl
  have h' : (TL.tl s)[0]? = some c := by rw [← h]; simp [TL.tl]
  cases e : TL.tl s with
  | nil => rw [e] at h'; cases h'
  | cons d r =>
    rw [e] at h' hl
    cases h'
    simp only [nameL, decide_eq_true hl, Bool.and_true]
theorem isName_no {s : Str} (h : ¬ (1 ≤ s.length ∧ s.length ≤ 8)) : isName s = false := by
  cases e : isName s with
  | false => rfl
  | true => exact absurd (isName_len e) h
theorem asB {Q : VK} {b b' : Bool} {H : Hp} (q : Q (.bl b) H) (e : b = b') : Q (.bl b') H := e ▸ q
theorem atS {s : Str} {i : Nat} (h : i < s.length) : ∃ c, s.cps[i]? = some c ∧ atI s.cps.toList (i : Int) = some c := by
  have h' : i < s.cps.size := h
  refine ⟨s.cps[i], by simp [h'], atI_nat (by simp [h'])⟩
theorem all_false {p : Nat → Bool} {s : Str} {i : Nat} {c : Nat} (h : s.cps[i]? = some c) (hp : p c = false) : (TL.tl s).all p = false := by
  have h' : (TL.tl s)[i]? = some c := by rw [← h]; simp [TL.tl]
  cases e : (TL.tl s).all p with
  | false => rfl
  | true =>
    rw [List.all_eq_true] at e
    have := e c (List.mem_of_getElem? h')
    rw [hp] at this; cases this
theorem all_true {p : Nat → Bool} {s : Str} (h : ∀ (j c : Nat), s.cps[j]? = some c → p c = true) : (TL.tl s).all p = true := by
  rw [List.all_eq_true]
  intro c hc
  obtain ⟨j, hj⟩ := List.mem_iff_getElem?.mp hc
  exact h j c (by rw [← hj]; simp [TL.tl])
/-- the pieces of a text are no longer than it -/
theorem spl_short (S : List Nat) : ∀ (k : Nat) (acc l : List Nat), ∀ p ∈ TL.spl S k acc l, p.length ≤ acc.length + l.length
  | k, acc, [], p, h => by
    rw [TL.spl_nil] at h
    rw [List.mem_singleton.mp h]
    simp
  | 0, acc, c :: r, p, h => by
    unfold TL.spl at h
    split at h
    · rcases List.mem_cons.mp h with e | e
      · rw [e]; omega
      · have := spl_short S _ [] r p e
        simp at this ⊢; omega
    · have := spl_short S 0 (acc ++ [c]) r p h
      simp at this ⊢; omega
  | k + 1, acc, c :: r, p, h => by
    unfold TL.spl at h
    have := spl_short S k acc r p h
    simp at this ⊢; omega
theorem dot_tl : TL.tl ("." : Str) = [46] := by decide +kernel
theorem kind_dot (x : Str) : ¬ Builtin.Str.strKind x < Builtin.Str.strKind ("." : Str) := TL.kind_ok (by decide +kernel)
theorem split_short {s p : Str} (h : p ∈ Txt.split s ".") : p.length ≤ s.length := by
  have e := TL.split_spl s "." (by rw [dot_tl]; simp) (kind_dot s)
  have hp : TL.tl p ∈ TL.spl (TL.tl ".") 0 [] (TL.tl s) := by rw [← e]; exact List.mem_map_of_mem h
  have := spl_short _ _ _ _ _ hp
  rw [TL.len_tl, TL.len_tl]
  simpa using this
theorem split_join_dot {parts : List Str} (hne : parts ≠ []) (hp : ∀ p ∈ parts, 46 ∉ TL.tl p) : Txt.split (Txt.join "." parts) "." = parts :=
  TL.split_join dot_tl (by decide +kernel) hne hp
def isFull (s : Str) : Bool := (Txt.split s ".").all isName
theorem join_dot {ps : List Str} : TL.tl (Txt.join "." ps) = TL.joinL [46] (ps.map TL.tl) := by
  rw [TL.join_eq, TL.tl_join, dot_tl]
theorem joinL_short : ∀ (ls : List (List Nat)), (∀ l ∈ ls, l.length ≤ 9) → (TL.joinL [46] ls).length ≤ 10 * ls.length
  | [], _ => by simp [TL.joinL]
  | [p], h => by have := h p (List.mem_cons_self ..); simp [TL.joinL]; omega
  | p :: q :: r, h => by
    have h1 := h p (List.mem_cons_self ..)
    have ih := joinL_short (q :: r) fun l hl => h l (List.mem_cons_of_mem _ hl)
    simp only [TL.joinL, List.length_append, List.length_cons, List.length_nil] at ih ⊢
    omega
theorem join_short {ps : List Str} (h : ∀ s ∈ ps, s.length ≤ 9) : (Txt.join "." ps).length ≤ 10 * ps.length := by
  rw [TL.len_tl, join_dot]
  have := joinL_short (ps.map TL.tl) fun l hl => by
    obtain ⟨s, hs, rfl⟩ := List.mem_map.mp hl
    rw [← TL.len_tl]; exact h s hs
  simpa using this
theorem sum_short {ps : List Str} (h : ∀ s ∈ ps, s.length ≤ 9) : (ps.map (·.length)).sum ≤ 9 * ps.length := by
  induction ps with
  | nil => simp
  | cons p ps ih =>
    have h1 := h p (List.mem_cons_self ..)
    have h2 := ih fun s hs => h s (List.mem_cons_of_mem _ hs)
    simp only [List.map_cons, List.sum_cons, List.length_cons]
    omega
theorem isFull_join {ps : List Str} (hne : ps ≠ []) (h : ∀ s ∈ ps, 46 ∉ TL.tl s) : isFull (Txt.join "." ps) = ps.all isName := by
  unfold isFull
  rw [split_join_dot hne h]
theorem isName_join {ps : List Str} (hne : ps ≠ []) (h : ∀ s ∈ ps, 46 ∉ TL.tl s) : isName (Txt.join "." ps) = (ps.all isName && decide ((ps.length : Int) = 1)) := by
  match ps, hne with
  | [p], _ =>
    have e : Txt.join "." [p] = p := TL.ext_tl (by rw [join_dot]; rfl)
    rw [e]; simp
  | p :: q :: r, _ =>
    have hl : ¬ (((p :: q :: r).length : Nat) : Int) = 1 := by simp only [List.length_cons]; omega
    rw [decide_eq_false hl, Bool.and_false]
    unfold isName
    have hm : 46 ∈ TL.tl (Txt.join "." (p :: q :: r)) := by
      rw [join_dot]
      simp only [List.map_cons, TL.joinL, List.mem_append]
      exact .inr (.inl (by simp))
    cases e : TL.tl (Txt.join "." (p :: q :: r)) with
    | nil => rfl
    | cons x t =>
      rw [e] at hm
      have : (x :: t).all (fun c => isLet c || isDig c) = false := by
        cases z : (x :: t).all (fun c => isLet c || isDig c) with
        | false => rfl
        | true => have := List.all_eq_true.mp z 46 hm; revert this; decide
      simp only [nameL, this, Bool.false_and, Bool.and_false]
/-- the keys of a dict of texts -/
def keysOf (kvs : List (Key × V)) : List Key := kvs.map (·.1)
theorem nd_putKA {kvs : List (Key × V)} {k : Key} (v : V) (h : (keysOf kvs).Nodup) : (keysOf (putK kvs k v)).Nodup := by
  cases e : valV kvs k with
  | none => exact nd_putK v h e
  | some x =>
    have a : (kvs.any fun kv => decide (kv.1 = k)) = true := by rw [valV_any, e]; rfl
    have e2 : keysOf (putK kvs k v) = keysOf kvs := by
      unfold putK keysOf
      rw [if_pos a, List.map_map]
      refine List.map_congr_left fun p _ => ?_
      show (if p.1 = k then (p.1, v) else p).1 = p.1
      split <;> rfl
    rw [e2]; exact h
theorem keys_put {kvs : List (Key × V)} {k : Key} {v : V} : (∀ x, x ∈ keysOf (putK kvs k v) ↔ x ∈ keysOf kvs ∨ x = k) := by
  intro x
  have e : ∀ l : List (Key × V), x ∈ keysOf l ↔ (valV l x).isSome = true := fun l => by
    rw [← valV_any, List.any_eq_true, keysOf, List.mem_map]
    constructor
    · rintro ⟨p, hp, rfl⟩; exact ⟨p, hp, by simp⟩
    · rintro ⟨p, hp, h⟩; exact ⟨p, hp, by simpa using h⟩
  rw [e, e, valV_put]
  by_cases h : x = k
  · simp [h]
  · simp [h]
structure Mgd (kvs : List (Key × V)) (xs : List Str) : Prop where
  nd : (keysOf kvs).Nodup
  mem : ∀ x : Key, x ∈ keysOf kvs ↔ ∃ s ∈ xs, x = Sum.inr s
theorem Mgd.put {kvs : List (Key × V)} {xs : List Str} {s : Str} {v : V} (m : Mgd kvs xs) : Mgd (putK kvs (Sum.inr s) v) (xs ++ [s]) := by
  refine ⟨nd_putKA _ m.nd, fun x => ?_⟩
  rw [keys_put, m.mem]
  constructor
  · rintro (⟨t, ht, rfl⟩ | rfl)
    · exact ⟨t, List.mem_append_left _ ht, rfl⟩
    · exact ⟨s, List.mem_append_right _ (List.mem_singleton.mpr rfl), rfl⟩
  · rintro ⟨t, ht, rfl⟩
    rcases List.mem_append.mp ht with h | h
    · exact .inl ⟨t, h, rfl⟩
    · rw [List.mem_singleton.mp h]; exact .inr rfl
theorem Mgd.keys {kvs : List (Key × V)} {xs : List Str} (m : Mgd kvs xs) : ∃ ks : List Str, keysOf kvs = ks.map Sum.inr ∧ ks.Nodup ∧ ∀ s, s ∈ ks ↔ s ∈ xs := by
  have go : ∀ l : List Key, l.Nodup → (∀ x ∈ l, ∃ s, x = Sum.inr s) → ∃ ks : List Str, l = ks.map Sum.inr ∧ ks.Nodup := by
    intro l
    induction l with
    | nil => exact fun _ _ => ⟨[], rfl, List.nodup_nil⟩
    | cons x l ih =>
      intro nd h
      obtain ⟨s, rfl⟩ := h x (List.mem_cons_self ..)
      obtain ⟨ks, e, n⟩ := ih (List.nodup_cons.mp nd).2 fun y hy => h y (List.mem_cons_of_mem _ hy)
      refine ⟨s :: ks, by rw [e]; rfl, List.nodup_cons.mpr ⟨fun hm => (List.nodup_cons.mp nd).1 (by rw [e]; exact List.mem_map_of_mem hm), n⟩⟩
  obtain ⟨ks, e, n⟩ := go _ m.nd fun x hx => by
    obtain ⟨s, _, rfl⟩ := (m.mem x).mp hx
    exact ⟨s, rfl⟩
  refine ⟨ks, e, n, fun s => ?_⟩
  have h := m.mem (Sum.inr s)
  rw [e] at h
  constructor
  · intro hs
    obtain ⟨t, ht, q⟩ := h.mp (List.mem_map_of_mem hs)
    cases q; exact ht
  · intro hs
    obtain ⟨t, ht, q⟩ := List.mem_map.mp (h.mpr ⟨s, hs, rfl⟩)
    cases q; exact ht
theorem nodup_short : ∀ {l m : List Str}, l.Nodup → (∀ x ∈ l, x ∈ m) → l.length ≤ m.length
  | [], _, _, _ => Nat.zero_le _
  | x :: l, m, nd, h => by
    have hx := h x (List.mem_cons_self ..)
    have n := List.nodup_cons.mp nd
    have ih := nodup_short (m := m.erase x) n.2 fun y hy => (List.mem_erase_of_ne (fun e => by subst e; exact n.1 hy)).mpr (h y (List.mem_cons_of_mem _ hy))
    rw [List.length_erase_of_mem hx] at ih
    have : 0 < m.length := List.length_pos_of_mem hx
    simp only [List.length_cons]; omega
theorem mem_keys_len {kvs : List (Key × V)} {xs : List Str} (m : Mgd kvs xs) : kvs.length ≤ xs.length := by
  obtain ⟨ks, e, nd, h⟩ := m.keys
  have h1 : kvs.length = ks.length := by
    have := congrArg List.length e
    simpa [keysOf] using this
  rw [h1]
  exact nodup_short nd fun x hx => (h x).mp hx
def topS (i : Nat) : Stmt := PySem.Challenge.pw_shadowlinks_k00_names_and_merging.main.body.getD i (.Pass ⟨0, 0, 0, 0⟩)
abbrev N_is_name : List Str := ["text", "char"]
theorem sc_is_name : FnScope N_is_name ["text"] (defScope (topS 3)) := ⟨rfl, rfl, rfl, by decide +kernel, rfl, by decide +kernel, by decide +kernel⟩
abbrev N_is_full_name : List Str := ["text", "piece"]
theorem sc_is_full_name : FnScope N_is_full_name ["text"] (defScope (topS 4)) := ⟨rfl, rfl, rfl, by decide +kernel, rfl, by decide +kernel, by decide +kernel⟩
abbrev N_merge_names : List Str := ["lists", "found", "names", "name"]
theorem sc_merge_names : FnScope N_merge_names ["lists"] (defScope (topS 5)) := ⟨rfl, rfl, rfl, by decide +kernel, rfl, by decide +kernel, by decide +kernel⟩
abbrev N__law_source : List Str := ["_law_script", "_law_k", "_law_number"]
theorem sc__law_source : FnScope N__law_source ["_law_script", "_law_k"] (defScope (topS 7)) := ⟨rfl, rfl, rfl, by decide +kernel, rfl, by decide +kernel, by decide +kernel⟩
abbrev N__law_draw : List Str := ["_law_source_here", "_law_limit", "_law_number", "_law_mixed"]
theorem sc__law_draw : FnScope N__law_draw ["_law_source_here", "_law_limit"] (defScope (topS 8)) := ⟨rfl, rfl, rfl, by decide +kernel, rfl, by decide +kernel, by decide +kernel⟩
abbrev N__law_piece : List Str := ["_law_source_here", "_law_size", "_law_text", "_law_k", "_law_choice"]
theorem sc__law_piece : FnScope N__law_piece ["_law_source_here"] (defScope (topS 9)) := ⟨rfl, rfl, rfl, by decide +kernel, rfl, by decide +kernel, by decide +kernel⟩
abbrev N__law_is_name : List Str := ["_law_text", "_law_k"]
theorem sc__law_is_name : FnScope N__law_is_name ["_law_text"] (defScope (topS 10)) := ⟨rfl, rfl, rfl, by decide +kernel, rfl, by decide +kernel, by decide +kernel⟩
abbrev N__law_is_bool : List Str := ["_law_actual", "_law_expected"]
theorem sc__law_is_bool : FnScope N__law_is_bool ["_law_actual", "_law_expected"] (defScope (topS 11)) := ⟨rfl, rfl, rfl, by decide +kernel, rfl, by decide +kernel, by decide +kernel⟩
abbrev N__law_names_right : List Str := ["_law_source_here", "_law_pieces", "_law_k", "_law_text", "_law_full", "_law_piece_here", "_law_plain"]
theorem sc__law_names_right : FnScope N__law_names_right ["_law_source_here"] (defScope (topS 12)) := ⟨rfl, rfl, rfl, by decide +kernel, rfl, by decide +kernel, by decide +kernel⟩
abbrev N__law_lists : List Str := ["_law_source_here", "_law_lists_here", "_law_k", "_law_names", "_law_j", "_law_name"]
theorem sc__law_lists : FnScope N__law_lists ["_law_source_here"] (defScope (topS 13)) := ⟨rfl, rfl, rfl, by decide +kernel, rfl, by decide +kernel, by decide +kernel⟩
abbrev N__law_merged : List Str := ["_law_lists_here", "_law_passed"]
theorem sc__law_merged : FnScope N__law_merged ["_law_lists_here", "_law_passed"] (defScope (topS 14)) := ⟨rfl, rfl, rfl, by decide +kernel, rfl, by decide +kernel, by decide +kernel⟩
abbrev N_law : List Str := ["_law_script", "_law_source_here", "_law_k", "_law_lists_here", "_law_names", "_law_passed", "_law_actual", "_law_name"]
theorem sc_law : FnScope N_law ["_law_script"] (defScope (topS 15)) := ⟨rfl, rfl, rfl, by decide +kernel, rfl, by decide +kernel, by decide +kernel⟩
structure Txt (K : PySem.W.Frag) (mg : Str → Option Value) (A : Nat → Addr) (D : Nat → FuncData) : Prop where
  F_is_name : Fun K "is_name" "is_name" (topS 3) (A 3) (D 3)
  g_is_name : mg "is_name" = some (.ref (A 3))
  b_is_name : Binds K (D 3) ["text"] []
  F_is_full_name : Fun K "is_full_name" "is_full_name" (topS 4) (A 4) (D 4)
  g_is_full_name : mg "is_full_name" = some (.ref (A 4))
  b_is_full_name : Binds K (D 4) ["text"] []
  F_merge_names : Fun K "merge_names" "merge_names" (topS 5) (A 5) (D 5)
  g_merge_names : mg "merge_names" = some (.ref (A 5))
  F__law_source : Fun K "_law_source" "_law_source" (topS 7) (A 7) (D 7)
  g__law_source : mg "_law_source" = some (.ref (A 7))
  b__law_source : Binds K (D 7) ["_law_script", "_law_k"] []
  F__law_draw : Fun K "_law_draw" "_law_draw" (topS 8) (A 8) (D 8)
  g__law_draw : mg "_law_draw" = some (.ref (A 8))
  b__law_draw : Binds K (D 8) ["_law_source_here", "_law_limit"] []
  F__law_piece : Fun K "_law_piece" "_law_piece" (topS 9) (A 9) (D 9)
  g__law_piece : mg "_law_piece" = some (.ref (A 9))
  b__law_piece : Binds K (D 9) ["_law_source_here"] []
  F__law_is_name : Fun K "_law_is_name" "_law_is_name" (topS 10) (A 10) (D 10)
  g__law_is_name : mg "_law_is_name" = some (.ref (A 10))
  b__law_is_name : Binds K (D 10) ["_law_text"] []
  F__law_is_bool : Fun K "_law_is_bool" "_law_is_bool" (topS 11) (A 11) (D 11)
  g__law_is_bool : mg "_law_is_bool" = some (.ref (A 11))
  b__law_is_bool : Binds K (D 11) ["_law_actual", "_law_expected"] []
  F__law_names_right : Fun K "_law_names_right" "_law_names_right" (topS 12) (A 12) (D 12)
  g__law_names_right : mg "_law_names_right" = some (.ref (A 12))
  b__law_names_right : Binds K (D 12) ["_law_source_here"] []
  F__law_lists : Fun K "_law_lists" "_law_lists" (topS 13) (A 13) (D 13)
  g__law_lists : mg "_law_lists" = some (.ref (A 13))
  b__law_lists : Binds K (D 13) ["_law_source_here"] []
  F__law_merged : Fun K "_law_merged" "_law_merged" (topS 14) (A 14) (D 14)
  g__law_merged : mg "_law_merged" = some (.ref (A 14))
  b__law_merged : Binds K (D 14) ["_law_lists_here", "_law_passed"] []
  F_law : Fun K "law" "law" (topS 15) (A 15) (D 15)
  g_law : mg "law" = some (.ref (A 15))
  b_law : Binds K (D 15) ["_law_script"] []
  z_len : mg "len" = none
  z_int : mg "int" = none
  z_str : mg "str" = none
  z_bool : mg "bool" = none
  z_list : mg "list" = none
  z_tuple : mg "tuple" = none
  z_range : mg "range" = none
  z_sorted : mg "sorted" = none
  z_isinstance : mg "isinstance" = none
  c_LETTERS : ∃ t, mg "LETTERS" = some (.str "abcdefghijklmnopqrstuvwxyz" t)
  c_DIGITS : ∃ t, mg "DIGITS" = some (.str "0123456789" t)
section
variable {P : Program} {w : World} {K : PySem.W.Frag} {mg : Str → Option Value} {base : Heap} {A : Nat → Addr} {D : Nat → FuncData}
def sp__law_source (K : PySem.W.Frag) : Sp := fun vs H Q _ => ∃ (a : Addr) (ns : List Int) (k : Nat), vs = [.ref a, .int (k : Int)] ∧ SqL K H a (ns.map V.int) ∧ ns.length ≤ 63 ∧
  ∀ p H', H p = none → Kp [] H H' → Src H' p → Q (.ref p) H'
theorem ok__law_source (T : Txt K mg A D) : FnOk P w K mg base CX0 1 (A 7) (D 7) ["_law_script", "_law_k"] (sp__law_source K) := by
  refine T.F__law_source.ok sc__law_source (fun vs H Q E h => ?_) (fun cdv A' outer s H vs Q E hr h => ?_)
  · obtain ⟨a, ns, k, rfl, hS, hl, q⟩ := h
    rfl
  · obtain ⟨a, ns, k, rfl, hS, hl, q⟩ := h
    have hu := hu_of hr
    refine ⟨_, (pss_cons (ps_set (i := 2) sc__law_source.nd rfl (Or.inl rfl) pe_int)
      (pss_cons (ps_if (pt_cmpR op_lt (pv 1) (pe_callB (id := "len") (cK_len (K := K) rfl) (by rfl) T.z_len (by decide +kernel) (pa_cons (pv 0) pa_nil)) (nomark _))
        (pss_one (ps_set (i := 2) sc__law_source.nd rfl (Or.inl rfl) (pe_callTy (T := "int") call_int1 (by rfl) T.z_int (by decide +kernel) (pa_cons (pe_ix (xK_list (K := K) rfl) (pv 0) (pv 1) (fun _ _ => rfl)) pa_nil))))
        pss_nil)
      (pss_one (ps_ret (pe_lst (pa_cons (pv 2) (pa_cons (pe_op op_add (pe_op op_mul pe_int (pv 1)) (pe_callB (id := "len") (cK_len (K := K) rfl) (by rfl) T.z_len (by decide +kernel) (pa_cons (pv 0) pa_nil))) pa_nil))))))), ?_⟩
    -- _law_number = 0; if _law_k < len(_law_script)
    refine ⟨_, rfl, _, rfl, _, ns.length, rfl, .inl ⟨_, hS, by rw [List.length_map]⟩, _, _, rfl, rfl, _, rfl, ?_⟩
    refine ite2 (fun c => ?_) (fun c => ?_)
    · have hk : k < ns.length := by simpa using c
      refine ⟨_, rfl, _, rfl, _, _, _, .int ns[k], rfl, rfl, hS, atI_nat (by simp [hk]), .inl ⟨_, rfl, ?_⟩⟩
      refine ⟨_, rfl, _, rfl, _, _, rfl, rfl, .inl ⟨by decide, by decide⟩, _, rfl, _, ns.length, rfl, .inl ⟨_, hS, by rw [List.length_map]⟩, _, _, rfl, rfl, sz (by simp), fun p hp => ?_⟩
      exact q p _ hp (Kp.new hp) ⟨_, _, upd_same⟩
    · refine ⟨_, rfl, _, rfl, _, _, rfl, rfl, .inl ⟨by decide, by decide⟩, _, rfl, _, ns.length, rfl, .inl ⟨_, hS, by rw [List.length_map]⟩, _, _, rfl, rfl, sz (by simp), fun p hp => ?_⟩
      exact q p _ hp (Kp.new hp) ⟨_, _, upd_same⟩
def sp__law_draw (K : PySem.W.Frag) : Sp := fun vs H Q _ => ∃ (a : Addr) (lim : Int), vs = [.ref a, .int lim] ∧ Src H a ∧ 0 < lim ∧ lim < 1073741824 ∧
  ∀ (r : Int) H', 0 ≤ r → r < lim → Kp [a] H H' → Src H' a → Q (.int r) H'
theorem ok__law_draw (T : Txt K mg A D) : FnOk P w K mg base CX0 1 (A 8) (D 8) ["_law_source_here", "_law_limit"] (sp__law_draw K) := by
  refine T.F__law_draw.ok sc__law_draw (fun vs H Q E h => ?_) (fun cdv A' outer s H vs Q E hr h => ?_)
  · obtain ⟨a, lim, rfl, ⟨n, c, hs⟩, h0, h1, q⟩ := h
    rfl
  · obtain ⟨a, lim, rfl, ⟨n, c, hs⟩, h0, h1, q⟩ := h
    have hu := hu_of hr
    refine ⟨_, (pss_cons (ps_set (i := 2) sc__law_draw.nd rfl (Or.inl rfl) (pe_ix (xK_list (K := K) rfl) (pv 0) pe_int (fun _ _ => rfl)))
      (pss_cons (ps_if (pt_cmpR op_ge (pv 2) (pe_op op_pow pe_int pe_int) (nomark _))
        (pss_cons (ps_asg (pe_op op_fdiv (pv 2) (pv 1)) (pg_sub (pv 0) pe_int set_list))
        (pss_one (ps_ret (pe_op op_mod (pe_callTy (T := "int") call_int1 (by rfl) T.z_int (by decide +kernel) (pa_cons (pv 2) pa_nil)) (pv 1)))))
        pss_nil)
      (pss_cons (ps_asg (pe_op op_add (pe_ix (xK_list (K := K) rfl) (pv 0) pe_int (fun _ _ => rfl)) pe_int) (pg_sub (pv 0) pe_int set_list))
      (pss_cons (ps_set (i := 3) sc__law_draw.nd rfl (Or.inl rfl) (pe_op op_mod (pe_callTy (T := "int") call_int1 (by rfl) T.z_int (by decide +kernel) (pa_cons (pe_op op_add (pe_op op_add (pe_op op_mul (pv 2) pe_int) (pe_op op_mul (pe_ix (xK_list (K := K) rfl) (pv 0) pe_int (fun _ _ => rfl)) pe_int)) pe_int) pa_nil)) pe_int))
      (pss_cons (ps_set (i := 3) sc__law_draw.nd rfl (Or.inl rfl) (pe_op op_mod (pe_callTy (T := "int") call_int1 (by rfl) T.z_int (by decide +kernel) (pa_cons (pe_op op_add (pe_op op_add (pe_op op_mul (pv 3) (pv 3)) (pv 2)) (pe_op op_mul (pe_ix (xK_list (K := K) rfl) (pv 0) pe_int (fun _ _ => rfl)) pe_int)) pa_nil)) pe_int))
      (pss_cons (ps_set (i := 3) sc__law_draw.nd rfl (Or.inl rfl) (pe_op op_mod (pe_callTy (T := "int") call_int1 (by rfl) T.z_int (by decide +kernel) (pa_cons (pe_op op_add (pe_op op_add (pe_op op_mul (pv 3) (pv 3)) (pe_op op_fdiv (pv 3) pe_int)) pe_int) pa_nil)) pe_int))
      (pss_one (ps_ret (pe_op op_mod (pe_op op_fdiv (pe_callTy (T := "int") call_int1 (by rfl) T.z_int (by decide +kernel) (pa_cons (pv 3) pa_nil)) pe_int) (pv 1)))))))))), ?_⟩
    walk_at "rds"
    refine ⟨⟨by decide, by decide, by decide⟩, ?_⟩
    walk_at "rds"
    have kp : ∀ o, Kp [a] H (upd H a o) := fun o => Kp.own hs rfl (by simp)
    refine ite2 (fun _ => ?_) (fun _ => ?_)
    · refine ⟨_, rfl, _, rfl, _, _, rfl, rfl, ⟨h0, h1⟩, _, rfl, a, _, _, 0, rfl, rfl, hs, rfl, ?_⟩
      refine ⟨_, rfl, .inl ⟨_, rfl, _, rfl, _, _, rfl, rfl, h0, ?_⟩⟩
      exact q _ _ (Int.emod_nonneg _ (by omega)) (Int.emod_lt_of_pos _ h0) (kp _) ⟨_, _, upd_same⟩
    · have e1 : SqL K H a [.int n, .int c] := SqL.of hs
      refine ⟨_, rfl, _, _, _, _, rfl, rfl, e1, rfl, _, _, rfl, rfl, _, rfl, a, _, _, 1, rfl, rfl, hs, rfl, ?_⟩
      have e2 : SqL K (upd H a (.lst [.int n, .int (c + 1)])) a [.int n, .int (c + 1)] := SqL.of upd_same
      refine ⟨_, rfl, _, _, rfl, rfl, .inr ⟨by decide, by decide⟩, _, rfl, _, _, _, _, rfl, rfl, e2, rfl, _, _, rfl, rfl, .inr ⟨by decide, by decide⟩, _, _, rfl, rfl, _, _, rfl, rfl, .inl ⟨_, rfl, _, _, rfl, rfl, (by show (0 : Int) < _; decide), ?_⟩⟩
      refine ⟨_, rfl, _, rfl, _, _, rfl, rfl, .inl ⟨by omega, by omega⟩, _, rfl, _, _, rfl, rfl, _, rfl, _, _, _, _, rfl, rfl, e2, rfl, _, _, rfl, rfl, .inr ⟨by decide, by decide⟩, _, _, rfl, rfl, .inl ⟨_, rfl, _, _, rfl, rfl, (by show (0 : Int) < _; decide), ?_⟩⟩
      refine ⟨_, rfl, _, rfl, _, _, rfl, rfl, .inl ⟨by omega, by omega⟩, _, rfl, _, _, rfl, rfl, ⟨by decide, by decide⟩, _, _, rfl, rfl, _, _, rfl, rfl, .inl ⟨_, rfl, _, _, rfl, rfl, (by show (0 : Int) < _; decide), ?_⟩⟩
      refine ⟨_, rfl, .inl ⟨_, rfl, _, _, rfl, rfl, ⟨by decide, by decide⟩, _, rfl, _, _, rfl, rfl, h0, ?_⟩⟩
      exact q _ _ (Int.emod_nonneg _ (by omega)) (Int.emod_lt_of_pos _ h0) (kp _) ⟨_, _, upd_same⟩
def sp_is_name (K : PySem.W.Frag) : Sp := fun vs H Q _ => ∃ (s : Str), vs = [.str s] ∧ s.length ≤ 100000 ∧ Q (.bl (isName s)) H
theorem ok_is_name (T : Txt K mg A D) : FnOk P w K mg base CX0 1 (A 3) (D 3) ["text"] (sp_is_name K) := by
  refine T.F_is_name.ok sc_is_name (fun vs H Q E h => ?_) (fun cdv A' outer s H vs Q E hr h => ?_)
  · obtain ⟨s, rfl, hs, q⟩ := h
    rfl
  · obtain ⟨s, rfl, hs, q⟩ := h
    have hu := hu_of hr
    refine ⟨_, (pss_cons (ps_if (PW.pt (pw_or (pt_not (pt_chain op_le op_le pe_int (pe_callB (id := "len") call_len_str (by rfl) T.z_len (by decide +kernel) (pa_cons (pv 0) pa_nil)) pe_int)) (pw_or1 (pt_cmpR op_notIn_sign (pe_ix ix_str (pv 0) pe_int (fun _ _ => rfl)) (pe_glob (v := .str "abcdefghijklmnopqrstuvwxyz") rfl T.c_LETTERS.choose_spec ⟨_, rfl⟩) rfl))))
        (pss_one (ps_ret pe_bl))
        pss_nil)
      (pss_cons (ps_for PassesOwn.never rfl (pi_str (pv 0)) (pg_name (i := 1) sc_is_name.nd rfl (Or.inl rfl))
        (pss_one (ps_if (PW.pt (pw_and (pt_cmpR op_notIn_sign (pv 1) (pe_glob (v := .str "abcdefghijklmnopqrstuvwxyz") rfl T.c_LETTERS.choose_spec ⟨_, rfl⟩) rfl) (pw_and1 (pt_cmpR op_notIn_sign (pv 1) (pe_glob (v := .str "0123456789") rfl T.c_DIGITS.choose_spec ⟨_, rfl⟩) rfl))))
          (pss_one (ps_ret pe_bl))
          pss_nil)))
      (pss_one (ps_ret pe_bl)))), ?_⟩
    refine ⟨_, rfl, _, rfl, sz hs, _, _, rfl, rfl, _, rfl, ?_⟩
    refine ite2 (fun c1 => ?_) (fun c1 => ?_)
    · refine ⟨_, _, rfl, rfl, _, rfl, ?_⟩
      refine ite2 (fun c2 => ?_) (fun c2 => ?_)
      · refine iteT ?_
        exact asB q (isName_no fun z => by simp at c2; omega)
      · have l8 : s.length ≤ 8 := by simp at c2; omega
        have l1 : 0 < s.length := by simp at c1; omega
        obtain ⟨c, hc, ha⟩ := atS l1
        refine ⟨_, rfl, _, _, c, rfl, rfl, sz hs, ha, _, _, rfl, rfl, _, rfl, ?_⟩
        refine ite2 (fun c3 => ?_) (fun c3 => ?_)
        · refine asB q ?_
          rw [isName_at hc l8, ← mem_let]
          simp only [Bool.not_eq_true'] at c3
          rw [c3]; rfl
        · rw [isName_at hc l8, ← mem_let] at q
          simp only [Bool.not_eq_true', Bool.not_eq_false] at c3
          rw [c3, Bool.true_and] at q
          refine ⟨_, rfl, _, rfl, for_it walk_str (fun i σ H' => H' = H ∧ (∃ v, σ = [some (.str s), v]) ∧ ∀ j c, j < i → s.cps[j]? = some c → (isLet c || isDig c) = true) ⟨rfl, ⟨_, rfl⟩, fun j c z => by omega⟩ (fun _ _ _ _ _ => trivial) ?_ ?_⟩
          · rintro i x σ H1 H2 hi ⟨rfl, ⟨v, rfl⟩, hall⟩ ⟨rfl, d, hd, rfl⟩
            refine ⟨_, rfl, _, _, rfl, rfl, _, rfl, ?_⟩
            rw [mem_let]
            have next : (isLet d || isDig d) = true → ∀ j c, j < i + 1 → s.cps[j]? = some c → (isLet c || isDig c) = true := fun hd' j c hj e => by
              rcases Nat.lt_succ_iff_lt_or_eq.mp hj with z | z
              · exact hall j c z e
              · subst z
                rw [hd] at e; cases e
                exact hd'
            refine ite2 (fun c4 => ?_) (fun c4 => ?_)
            · refine ⟨_, rfl, _, _, rfl, rfl, _, rfl, ?_⟩
              rw [mem_dig]
              simp only [Bool.not_eq_true'] at c4
              refine ite2 (fun c5 => ?_) (fun c5 => ?_)
              · simp only [Bool.not_eq_true'] at c5
                exact asB q (all_false hd (by rw [c4, c5]; rfl))
              · simp only [Bool.not_eq_true', Bool.not_eq_false] at c5
                exact ⟨rfl, ⟨_, rfl⟩, next (by rw [c5]; simp)⟩
            · simp only [Bool.not_eq_true', Bool.not_eq_false] at c4
              exact ⟨rfl, ⟨_, rfl⟩, next (by rw [c4]; rfl)⟩
          · rintro σ H1 ⟨rfl, ⟨v, rfl⟩, hall⟩
            exact asB q (all_true fun j c e => hall j c (by
              have := (Array.getElem?_eq_some_iff.mp e).1
              exact this) e)
    · refine ⟨_, rfl, ?_⟩
      refine iteT ?_
      exact asB q (isName_no fun z => by simp at c1; omega)
def sp_is_full_name (K : PySem.W.Frag) : Sp := fun vs H Q _ => ∃ (s : Str), vs = [.str s] ∧ s.length ≤ 100000 ∧ ∀ H', Kp [] H H' → Q (.bl (isFull s)) H'
theorem ok_is_full_name (T : Txt K mg A D) : FnOk P w K mg base CX0 2 (A 4) (D 4) ["text"] (sp_is_full_name K) := by
  refine T.F_is_full_name.ok sc_is_full_name (fun vs H Q E h => ?_) (fun cdv A' outer s H vs Q E hr h => ?_)
  · obtain ⟨s, rfl, hs, q⟩ := h
    rfl
  · obtain ⟨s, rfl, hs, q⟩ := h
    have hu := hu_of hr
    have G_is_name : FnOk P w K mg base CX0 1 (A 3) (D 3) ["text"] (sp_is_name K) := ok_is_name T
    refine ⟨_, (pss_cons (ps_for PassesOwn.never rfl (iK_list (K := K) rfl (pe_split (pv 0) pe_str)) (pg_name (i := 1) sc_is_full_name.nd rfl (Or.inl rfl))
        (pss_one (ps_if (pt_not (pt_val (pe_call G_is_name (hr.mono (by decide)) rfl T.g_is_name T.F_is_name.kp T.b_is_name .nil pass0 (pa_cons (pv 1) pa_nil))))
          (pss_one (ps_ret pe_bl))
          pss_nil)))
      (pss_one (ps_ret pe_bl))), ?_⟩
    refine ⟨_, rfl, ⟨_, rfl⟩, _, _, rfl, rfl, rfl, (by show s.length + 2 ≤ sizeLine; exact Nat.le_trans (Nat.add_le_add_right hs 2) (by decide)), fun p hp => ?_⟩
    have hL : SqL K (upd H p (.lst ((Txt.split s ".").map V.str))) p ((Txt.split s ".").map V.str) := SqL.of upd_same
    refine ⟨_, rfl, ⟨_, hL⟩, for_it walk_list (fun i σ H' => H' = upd H p (.lst ((Txt.split s ".").map V.str)) ∧ (∃ v, σ = [some (.str s), v]) ∧ ∀ (j : Nat) (x : Str), j < i → (Txt.split s ".")[j]? = some x → isName x = true) ⟨rfl, ⟨_, rfl⟩, fun j x z => by omega⟩ (fun i σ H' _ z => by rw [z.1]; exact hL) ?_ ?_⟩
    · rintro i v σ H1 H2 hi ⟨rfl, ⟨u, rfl⟩, hall⟩ ⟨rfl, hv⟩
      rw [List.getElem?_map] at hv
      obtain ⟨x, hx, rfl⟩ := Option.map_eq_some_iff.mp hv
      have hm : x ∈ Txt.split s "." := List.mem_of_getElem? hx
      refine ⟨_, rfl, x, rfl, Nat.le_trans (split_short hm) hs, _, rfl, ?_⟩
      refine ite2 (fun c => ?_) (fun c => ?_)
      · simp only [Bool.not_eq_true'] at c
        refine asB (q _ (Kp.new hp)) ?_
        cases e : isFull s with
        | false => rfl
        | true =>
          have := List.all_eq_true.mp e x hm
          rw [c] at this; cases this
      · simp only [Bool.not_eq_true', Bool.not_eq_false] at c
        refine ⟨rfl, ⟨_, rfl⟩, fun j y hj e => ?_⟩
        rcases Nat.lt_succ_iff_lt_or_eq.mp hj with z | z
        · exact hall j y z e
        · subst z
          rw [hx] at e; cases e
          exact c
    · rintro σ H1 ⟨rfl, ⟨v, rfl⟩, hall⟩
      refine asB (q _ (Kp.new hp)) (List.all_eq_true.mpr fun x hx => ?_)
      obtain ⟨j, hj⟩ := List.mem_iff_getElem?.mp hx
      exact hall j x (by rw [List.length_map]; exact (List.getElem?_eq_some_iff.mp hj).1) hj
def sp_merge_names (K : PySem.W.Frag) : Sp := fun vs H Q _ => ∃ (p : Addr) (ls : List V) (nss : List (List Str)), vs = [.ref p] ∧ SqT K H p ls ∧ All2 (fun v ns => ∃ a, v = .ref a ∧ Sq K H a (ns.map V.str)) ls nss ∧ nss.flatten.length < 64 ∧
  ∀ (ys : List Str) r H', Asc ys → (∀ x, x ∈ ys ↔ x ∈ nss.flatten) → Kp [] H H' → H' r = some (.tup (ys.map V.str)) → Q (.ref r) H'
theorem ok_merge_names (T : Txt K mg A D) : FnR P w K mg base CX0 1 (A 5) (star 0 (sp_merge_names K)) := by
  obtain ⟨oc0, od0, kV0, doc0, pm0, an0, cdv, ct0, osl0, e0, lk, hcd⟩ := T.F_merge_names.ex
  rw [e0] at lk
  refine StX.fn_star (ps := []) (pv := "lists") (sp := sp_merge_names K) lk hcd sc_merge_names StX.cxUp_none (fun us rest hl => ?_) (fun A' outer s H vs Q E hr h => ?_)
  · match us, hl with | [], _ => cases rest <;> rfl
  · obtain ⟨p, ls, nss, rfl, hp, hall, hlen, q⟩ := h
    have hu := hu_of hr
    refine nox_ex ?_
    refine ⟨_, (pss_cons (ps_set (i := 1) sc_merge_names.nd rfl (Or.inl rfl) pe_dnewK)
      (pss_cons (ps_for PassesOwn.never rfl (iK_tup (K := K) rfl (pv 0)) (pg_name (i := 2) sc_merge_names.nd rfl (Or.inl rfl))
        (pss_one (ps_for PassesOwn.never rfl (pi_or (iK_list (K := K) rfl (pv 2)) (iK_tup (K := K) rfl (pv 2))) (pg_name (i := 3) sc_merge_names.nd rfl (Or.inl rfl))
          (pss_one (ps_dput hu (pv 1) (pv 3) pe_bl rfl)))))
      (pss_one (ps_ret (pe_callTy (T := "tuple") (cK_tuple (K := K) rfl) (by rfl) T.z_tuple (by decide +kernel) (pa_cons (pe_callB (id := "sorted") (cK_sortedS (K := K) rfl) (by rfl) T.z_sorted (by decide +kernel) (pa_cons (pe_callTy (T := "list") (call_listD rfl) (by rfl) T.z_list (by decide +kernel) (pa_cons (pv 1) pa_nil)) pa_nil)) pa_nil)))))), ?_⟩
    intro d hd
    have kd : ∀ o, Kp [] H (upd H d o) := fun o => Kp.new hd
    refine ⟨_, rfl, _, rfl, ⟨_, (kd _).sqT hp⟩, for_it walk_tup (fun i σ H' => ∃ kvs v2 v3, σ = [some (.ref p), some (.ref d), v2, v3] ∧ Kp [] H H' ∧ H' d = some (.dK kvs) ∧ Mgd kvs (nss.take i).flatten)
      ⟨[], none, none, rfl, kd _, upd_same, ⟨List.nodup_nil, fun x => by simp [keysOf]⟩⟩ (fun i σ H' _ z => by obtain ⟨_, _, _, _, k, _⟩ := z; exact k.sqT hp) ?_ ?_⟩
    · rintro i v σ H1 H2 hi ⟨kvs, v2, v3, rfl, k1, e1, m1⟩ ⟨rfl, hv⟩
      obtain ⟨ns, hns, a, rfl, hq⟩ := hall.at hv
      have stp : (nss.take (i + 1)).flatten = (nss.take i).flatten ++ ns := by rw [List.take_add_one, hns]; simp
      have part : ∀ j, ((nss.take i).flatten ++ ns.take j).length < 64 := fun j => by
        have h1 : ((nss.take i).flatten ++ ns.take j).length ≤ ((nss.take (i + 1)).flatten).length := by
          rw [stp, List.length_append, List.length_append, List.length_take]; omega
        have h2 : nss.flatten.length = ((nss.take (i + 1)).flatten).length + ((nss.drop (i + 1)).flatten).length := by
          rw [← List.length_append, ← List.flatten_append, List.take_append_drop]
        omega
      rcases hq with hq | hq
      all_goals
        first
        | (have hs : ∀ H', Kp [] H H' → SqL K H' a (ns.map V.str) := fun _ k => k.sqL List.not_mem_nil hq
           refine .inl ⟨_, rfl, _, rfl, ⟨_, hs _ k1⟩, for_it walk_list (fun j σ H' => ∃ kvs v3, σ = [some (.ref p), some (.ref d), some (.ref a), v3] ∧ Kp [] H H' ∧ H' d = some (.dK kvs) ∧ Mgd kvs ((nss.take i).flatten ++ ns.take j))
            ⟨kvs, v3, rfl, k1, e1, by simpa using m1⟩ (fun j σ H' _ z => by obtain ⟨_, _, _, k, _⟩ := z; exact hs _ k) ?_ ?_⟩)
        | (have hs : ∀ H', Kp [] H H' → SqT K H' a (ns.map V.str) := fun _ k => k.sqT hq
           refine .inr ⟨_, rfl, _, rfl, ⟨_, hs _ k1⟩, for_it walk_tup (fun j σ H' => ∃ kvs v3, σ = [some (.ref p), some (.ref d), some (.ref a), v3] ∧ Kp [] H H' ∧ H' d = some (.dK kvs) ∧ Mgd kvs ((nss.take i).flatten ++ ns.take j))
            ⟨kvs, v3, rfl, k1, e1, by simpa using m1⟩ (fun j σ H' _ z => by obtain ⟨_, _, _, k, _⟩ := z; exact hs _ k) ?_ ?_⟩)
        · rintro j x σ H3 H4 hj ⟨kvs, v3, rfl, k3, e3, m3⟩ ⟨rfl, hx⟩
          rw [List.getElem?_map] at hx
          obtain ⟨s, hs', rfl⟩ := Option.map_eq_some_iff.mp hx
          have st2 : (nss.take i).flatten ++ ns.take (j + 1) = ((nss.take i).flatten ++ ns.take j) ++ [s] := by rw [List.take_add_one, hs']; simp
          refine ⟨_, rfl, _, rfl, _, _, rfl, DPut.k (k := Sum.inr s) e3 (szl (by have := mem_keys_len m3; have := part j; omega)), ?_⟩
          exact ⟨_, _, rfl, k3.put hd, upd_same, by rw [st2]; exact m3.put⟩
        · rintro σ H3 ⟨kvs, v3, rfl, k3, e3, m3⟩
          refine ⟨_, _, _, rfl, k3, e3, ?_⟩
          rw [List.length_map, List.take_length] at m3
          rw [stp]; exact m3
    · rintro σ H1 ⟨kvs, v2, v3, rfl, k1, e1, m1⟩
      rw [hall.length, List.take_length] at m1
      obtain ⟨ks, ek, nd, mk⟩ := m1.keys
      have el : (kvs.map fun kv => kV kv.1) = ks.map V.str := by
        have := congrArg (List.map kV) ek
        rw [keysOf, List.map_map, List.map_map] at this
        exact this
      refine ⟨_, rfl, d, kvs, rfl, .inl e1, fun l hl => ?_⟩
      rw [el]
      refine ⟨l, ks, rfl, SqL.of upd_same, Nat.lt_of_le_of_lt (nodup_short nd fun x hx => (mk x).mp hx) hlen, fun ys t perm srt ht => ?_⟩
      refine ⟨t, _, rfl, .inl ⟨SqL.of upd_same, fun r hr => ?_⟩⟩
      exact q ys r _ (asc_of_sorted srt (perm.nodup_iff.mpr nd)) (fun x => (perm.mem_iff).trans (mk x)) (((k1.trans (Kp.new hl)).trans (Kp.new ht)).trans (Kp.new hr)) upd_same
def sp__law_piece (K : PySem.W.Frag) : Sp := fun vs H Q _ => ∃ (a : Addr), vs = [.ref a] ∧ Src H a ∧ ∀ (s : Str) H', s.length ≤ 9 → 46 ∉ TL.tl s → Kp [a] H H' → Src H' a → Q (.str s) H'
theorem ok__law_piece (T : Txt K mg A D) : FnOk P w K mg base CX0 2 (A 9) (D 9) ["_law_source_here"] (sp__law_piece K) := by
  refine T.F__law_piece.ok sc__law_piece (fun vs H Q E h => ?_) (fun cdv A' outer s H vs Q E hr h => ?_)
  · obtain ⟨a, rfl, hs, q⟩ := h
    rfl
  · obtain ⟨a, rfl, hs, q⟩ := h
    have hu := hu_of hr
    have G__law_draw : FnOk P w K mg base CX0 1 (A 8) (D 8) ["_law_source_here", "_law_limit"] (sp__law_draw K) := ok__law_draw T
    refine ⟨_, (pss_cons (ps_set (i := 1) sc__law_piece.nd rfl (Or.inl rfl) (pe_call G__law_draw (hr.mono (by decide)) rfl T.g__law_draw T.F__law_draw.kp T.b__law_draw .nil pass0 (pa_cons (pv 0) (pa_cons pe_int pa_nil))))
      (pss_cons (ps_set (i := 2) sc__law_piece.nd rfl (Or.inl rfl) pe_str)
      (pss_cons (ps_for PassesOwn.never rfl (pi_range1 rfl T.z_range (pa_cons (pv 1) pa_nil)) (pg_name (i := 3) sc__law_piece.nd rfl (Or.inl rfl))
        (pss_cons (ps_set (i := 4) sc__law_piece.nd rfl (Or.inl rfl) (pe_call G__law_draw (hr.mono (by decide)) rfl T.g__law_draw T.F__law_draw.kp T.b__law_draw .nil pass0 (pa_cons (pv 0) (pa_cons pe_int pa_nil))))
        (pss_one (ps_if (pt_cmpR op_eq (pv 4) pe_int (nomark _))
          (pss_one (ps_set (i := 2) sc__law_piece.nd rfl (Or.inl rfl) (pe_op op_add_str (pv 2) (pe_ix ix_str pe_str (pe_call G__law_draw (hr.mono (by decide)) rfl T.g__law_draw T.F__law_draw.kp T.b__law_draw .nil pass0 (pa_cons (pv 0) (pa_cons pe_int pa_nil))) (fun _ _ => rfl)))))
          (pss_one (ps_if (PW.pt (pw_or (PW.pt (pw_and (pt_cmpR op_gt (pv 3) pe_int (nomark _)) (pw_and1 (pt_cmpR op_gt (pv 4) pe_int (nomark _))))) (pw_or1 (pt_cmpR op_eq (pv 4) pe_int (nomark _)))))
            (pss_one (ps_set (i := 2) sc__law_piece.nd rfl (Or.inl rfl) (pe_op op_add_str (pv 2) (pe_ix ix_str pe_str (pe_call G__law_draw (hr.mono (by decide)) rfl T.g__law_draw T.F__law_draw.kp T.b__law_draw .nil pass0 (pa_cons (pv 0) (pa_cons pe_int pa_nil))) (fun _ _ => rfl)))))
            (pss_one (ps_set (i := 2) sc__law_piece.nd rfl (Or.inl rfl) (pe_op op_add_str (pv 2) (pe_ix ix_str pe_str (pe_call G__law_draw (hr.mono (by decide)) rfl T.g__law_draw T.F__law_draw.kp T.b__law_draw .nil pass0 (pa_cons (pv 0) (pa_cons pe_int pa_nil))) (fun _ _ => rfl)))))))))))
      (pss_one (ps_ret (pv 2)))))), ?_⟩
    refine ⟨_, rfl, a, 10, rfl, hs, by decide, by decide, fun n H1 n0 n1 k1 s1 => ?_⟩
    refine ⟨_, rfl, _, rfl, by omega, by omega, for_seq walk_range (fun i σ H' => ∃ (t : Str) (v3 v4 : Option V), σ = [some (.ref a), some (.int n), some (.str t), v3, v4] ∧ t.length = i ∧ 46 ∉ TL.tl t ∧ Kp [a] H H' ∧ Src H' a)
      ⟨"", none, none, rfl, rfl, by decide +kernel, k1, s1⟩ (fun _ _ _ _ _ => trivial) ?_ ?_⟩
    · rintro i v σ H2 H3 hi ⟨t, v3, v4, rfl, ht, hd, k2, s2⟩ ⟨rfl, rfl⟩
      walk_at "st"
      refine ⟨_, rfl, a, 16, rfl, s2, by decide, by decide, fun ch H4 c0 c1 k4 s4 => ?_⟩
      have add : ∀ (c : Nat), c ≠ 46 → (t ++ ⟨#[c]⟩ : Str).length = i + 1 ∧ 46 ∉ TL.tl (t ++ ⟨#[c]⟩ : Str) := fun c hc => by
        rw [TL.tl_append, TL.len_tl, TL.tl_append, List.length_append, ← TL.len_tl, ht]
        refine ⟨rfl, fun hm => ?_⟩
        rcases List.mem_append.mp hm with h | h
        · exact hd h
        · exact hc (List.mem_singleton.mp h).symm
      have tl : t.length + 1 ≤ sizeLine := sz (by omega)
      walk_at "if"
      · intro _
        refine ⟨_, rfl, _, rfl, a, 5, rfl, s4, by decide, by decide, fun r H5 r0 r1 k5 s5 => ?_⟩
        obtain ⟨c, hc, hm⟩ := sign_at (z := "AZ_ -") r0 (by rw [show (("AZ_ -" : Str).length : Int) = 5 by decide +kernel]; exact r1)
        refine ⟨_, _, c, rfl, rfl, by decide +kernel, hc, _, _, rfl, rfl, tl, ?_⟩
        have nc : c ≠ 46 := fun e => by subst e; revert hm; decide +kernel
        exact ⟨_, _, _, rfl, (add c nc).1, (add c nc).2, (k2.trans k4).trans k5, s5⟩
      · intro _
        walk_at "if"
        · intro _
          refine ⟨_, rfl, _, rfl, a, 10, rfl, s4, by decide, by decide, fun r H5 r0 r1 k5 s5 => ?_⟩
          obtain ⟨c, hc, hm⟩ := sign_at (z := "0123456789") r0 (by rw [show (("0123456789" : Str).length : Int) = 10 by decide +kernel]; exact r1)
          refine ⟨_, _, c, rfl, rfl, by decide +kernel, hc, _, _, rfl, rfl, tl, ?_⟩
          have nc : c ≠ 46 := fun e => by subst e; revert hm; decide +kernel
          exact ⟨_, _, _, rfl, (add c nc).1, (add c nc).2, (k2.trans k4).trans k5, s5⟩
        · intro _
          refine ⟨_, rfl, _, rfl, a, 26, rfl, s4, by decide, by decide, fun r H5 r0 r1 k5 s5 => ?_⟩
          obtain ⟨c, hc, hm⟩ := sign_at (z := "abcdefghijklmnopqrstuvwxyz") r0 (by rw [show (("abcdefghijklmnopqrstuvwxyz" : Str).length : Int) = 26 by decide +kernel]; exact r1)
          refine ⟨_, _, c, rfl, rfl, by decide +kernel, hc, _, _, rfl, rfl, tl, ?_⟩
          have nc : c ≠ 46 := fun e => by subst e; revert hm; decide +kernel
          exact ⟨_, _, _, rfl, (add c nc).1, (add c nc).2, (k2.trans k4).trans k5, s5⟩
    · rintro σ H2 ⟨t, v3, v4, rfl, ht, hd, k2, s2⟩
      refine ⟨_, rfl, ?_⟩
      exact q t _ (by omega) hd k2 s2
theorem atS0 {s : Str} {i : Nat} {c : Nat} (h : atI s.cps.toList (i : Int) = some c) : atI s.cps.toList (0 + (i : Int)) = some c := by rw [Int.zero_add]; exact h
def sp__law_is_name (K : PySem.W.Frag) : Sp := fun vs H Q _ => ∃ (s : Str), vs = [.str s] ∧ s.length ≤ 100000 ∧ Q (.bl (isName s)) H
theorem ok__law_is_name (T : Txt K mg A D) : FnOk P w K mg base CX0 1 (A 10) (D 10) ["_law_text"] (sp__law_is_name K) := by
  refine T.F__law_is_name.ok sc__law_is_name (fun vs H Q E h => ?_) (fun cdv A' outer s H vs Q E hr h => ?_)
  · obtain ⟨s, rfl, hs, q⟩ := h
    rfl
  · obtain ⟨s, rfl, hs, q⟩ := h
    have hu := hu_of hr
    refine ⟨_, (pss_cons (ps_if (PW.pt (pw_or (pt_cmpR op_eq (pv 0) pe_str (nomark _)) (pw_or1 (pt_cmpR op_gt (pe_callB (id := "len") call_len_str (by rfl) T.z_len (by decide +kernel) (pa_cons (pv 0) pa_nil)) pe_int (nomark _)))))
        (pss_one (ps_ret pe_bl))
        pss_nil)
      (pss_cons (ps_for PassesOwn.never rfl (pi_range1 rfl T.z_range (pa_cons (pe_callB (id := "len") call_len_str (by rfl) T.z_len (by decide +kernel) (pa_cons (pv 0) pa_nil)) pa_nil)) (pg_name (i := 1) sc__law_is_name.nd rfl (Or.inl rfl))
        (pss_one (ps_if (pt_cmpR op_in_sign (pe_ix ix_str (pv 0) (pv 1) (fun _ _ => rfl)) pe_str rfl)
          (pss_one (ps_if (pt_cmpR op_eq (pv 1) pe_int (nomark _))
            (pss_one (ps_ret pe_bl))
            pss_nil))
          (pss_one (ps_if (pt_cmpR op_notIn_sign (pe_ix ix_str (pv 0) (pv 1) (fun _ _ => rfl)) pe_str rfl)
            (pss_one (ps_ret pe_bl))
            pss_nil)))))
      (pss_one (ps_ret pe_bl)))), ?_⟩
    walk_at "if"
    · intro c1
      walk_at "st"
      refine asB q (isName_no fun z => ?_)
      simp only [Bool.or_eq_true, decide_eq_true_eq, V.str.injEq] at c1
      rcases c1 with c1 | c1
      · subst c1; exact absurd z.1 (by decide +kernel)
      · omega
    · intro c1
      simp only [Bool.or_eq_false_iff, decide_eq_false_iff_not, V.str.injEq] at c1
      have l8 : s.length ≤ 8 := by omega
      refine seq_forK ?_
      refine ⟨_, rfl, _, rfl, sz hs, _, rfl, by omega, by omega, for_seq walk_range (fun i σ H' => H' = H ∧ (∃ v, σ = [some (.str s), v]) ∧ (∀ (j c : Nat), j < i → s.cps[j]? = some c → (isLet c || isDig c) = true) ∧ ∀ c : Nat, 0 < i → s.cps[0]? = some c → isLet c = true)
        ⟨rfl, ⟨_, rfl⟩, fun j c z => by omega, fun c z => by omega⟩ (fun _ _ _ _ _ => trivial) ?_ ?_⟩
      · rintro i v σ H1 H2 hi ⟨rfl, ⟨v1, rfl⟩, ha, hb⟩ ⟨rfl, rfl⟩
        have hi' : i < s.length := by omega
        obtain ⟨c, hc, hat⟩ := atS hi'
        have hat' := atS0 hat
        walk_at "st"
        refine ⟨_, rfl, _, rfl, _, _, c, rfl, rfl, sz hs, hat', _, _, rfl, rfl, _, rfl, ?_⟩
        rw [mem_dig]
        refine ite2 (fun d => ?_) (fun d => ?_)
        · walk_at "if"
          · intro e
            walk_at "st"
            refine asB q ?_
            simp only [decide_eq_true_eq, V.int.injEq] at e
            have ei : i = 0 := by omega
            subst ei
            rw [isName_at hc l8, dig_let d]; rfl
          · intro e
            walk_at "st"
            simp only [decide_eq_false_iff_not, V.int.injEq] at e
            refine ⟨rfl, ⟨_, rfl⟩, fun j c' hj ej => ?_, fun c' _ ej => hb c' (by omega) ej⟩
            rcases Nat.lt_succ_iff_lt_or_eq.mp hj with z | z
            · exact ha j c' z ej
            · subst z; rw [hc] at ej; cases ej; rw [d]; simp
        · walk_at "st"
          refine ⟨_, rfl, _, rfl, _, _, c, rfl, rfl, sz hs, hat', _, _, rfl, rfl, _, rfl, ?_⟩
          rw [mem_let]
          refine ite2 (fun e => ?_) (fun e => ?_)
          · walk_at "st"
            simp only [Bool.not_eq_true'] at e
            refine asB q ?_
            unfold isName
            cases hn : TL.tl s with
            | nil => rfl
            | cons x r =>
              have := all_false (p := fun c => isLet c || isDig c) hc (by rw [e]; simpa using d)
              rw [hn] at this
              simp only [nameL, this, Bool.false_and, Bool.and_false]
          · walk_at "st"
            simp only [Bool.not_eq_true', Bool.not_eq_false] at e
            refine ⟨rfl, ⟨_, rfl⟩, fun j c' hj ej => ?_, fun c' _ ej => ?_⟩
            · rcases Nat.lt_succ_iff_lt_or_eq.mp hj with z | z
              · exact ha j c' z ej
              · subst z; rw [hc] at ej; cases ej; rw [e]; rfl
            · rcases Nat.eq_zero_or_pos i with z | z
              · subst z; rw [hc] at ej; cases ej; exact e
              · exact hb c' z ej
      · rintro σ H1 ⟨rfl, ⟨v, rfl⟩, ha, hb⟩
        walk_at "st"
        have l1 : 0 < s.length := by
          rcases Nat.eq_zero_or_pos s.length with z | z
          · exfalso
            apply c1.1
            refine TL.ext_tl ?_
            rw [TL.len_tl] at z
            rw [List.length_eq_zero_iff.mp z]; rfl
          · exact z
        obtain ⟨c, hc, _⟩ := atS l1
        refine asB q ?_
        rw [isName_at hc l8, hb c (by omega) hc, Bool.true_and]
        refine all_true fun j c' e => ha j c' ?_ e
        have h1 : j < s.cps.size := (Array.getElem?_eq_some_iff.mp e).1
        have h2 : s.length = s.cps.size := rfl
        omega
def sp__law_is_bool (K : PySem.W.Frag) : Sp := fun vs H Q _ => ∃ (x y : Bool), vs = [.bl x, .bl y] ∧ (x = y → Q (.bl true) H) ∧ (x ≠ y → Q (.bl false) H)
theorem ok__law_is_bool (T : Txt K mg A D) : FnOk P w K mg base CX0 1 (A 11) (D 11) ["_law_actual", "_law_expected"] (sp__law_is_bool K) := by
  refine T.F__law_is_bool.ok sc__law_is_bool (fun vs H Q E h => ?_) (fun cdv A' outer s H vs Q E hr h => ?_)
  · obtain ⟨x, y, rfl, q, q'⟩ := h
    rfl
  · obtain ⟨x, y, rfl, q, q'⟩ := h
    have hu := hu_of hr
    refine ⟨_, (pss_one (ps_ret (pe_and (pe_callB (id := "isinstance") (cK_isi (K := K) rfl) (by rfl) T.z_isinstance (by decide +kernel) (pa_cons (pv 0) (pa_cons (pe_bltn (v := .ty "bool") (u := .type "bool") (by rfl) T.z_bool (by decide +kernel) rfl) pa_nil))) (pe_one (pe_cmpR op_eq (pv 0) (pv 1) (nomark _)))))), ?_⟩
    walk_at "st"
    refine ⟨_, rfl, _, _, _, _, true, rfl, .ty "bool", .base (.bl x), kit_ty (by decide +kernel), true, rfl, ?_⟩
    refine iteT ?_
    refine ⟨_, rfl, _, rfl, rfl, ?_⟩
    by_cases e : x = y
    · exact asB (q e) (by subst e; simp)
    · exact asB (q' e) (by simp [e])
def sp__law_names_right (K : PySem.W.Frag) : Sp := fun vs H Q _ => ∃ (a : Addr), vs = [.ref a] ∧ Src H a ∧ ∀ H', Kp [a] H H' → Src H' a → Q (.bl true) H'
theorem ok__law_names_right (T : Txt K mg A D) : FnOk P w K mg base CX0 3 (A 12) (D 12) ["_law_source_here"] (sp__law_names_right K) := by
  refine T.F__law_names_right.ok sc__law_names_right (fun vs H Q E h => ?_) (fun cdv A' outer s H vs Q E hr h => ?_)
  · obtain ⟨a, rfl, hs, q⟩ := h
    rfl
  · obtain ⟨a, rfl, hs, q⟩ := h
    have hu := hu_of hr
    have G__law_is_bool : FnOk P w K mg base CX0 1 (A 11) (D 11) ["_law_actual", "_law_expected"] (sp__law_is_bool K) := ok__law_is_bool T
    have G__law_draw : FnOk P w K mg base CX0 1 (A 8) (D 8) ["_law_source_here", "_law_limit"] (sp__law_draw K) := ok__law_draw T
    have G__law_piece : FnOk P w K mg base CX0 2 (A 9) (D 9) ["_law_source_here"] (sp__law_piece K) := ok__law_piece T
    have G__law_is_name : FnOk P w K mg base CX0 1 (A 10) (D 10) ["_law_text"] (sp__law_is_name K) := ok__law_is_name T
    have G_is_name : FnOk P w K mg base CX0 1 (A 3) (D 3) ["text"] (sp_is_name K) := ok_is_name T
    have G_is_full_name : FnOk P w K mg base CX0 2 (A 4) (D 4) ["text"] (sp_is_full_name K) := ok_is_full_name T
    refine ⟨_, (pss_cons (ps_set (i := 1) sc__law_names_right.nd rfl (Or.inl rfl) (pe_lst pa_nil))
      (pss_cons (ps_for PassesOwn.never rfl (pi_range1 rfl T.z_range (pa_cons (pe_op op_add pe_int (pe_call G__law_draw (hr.mono (by decide)) rfl T.g__law_draw T.F__law_draw.kp T.b__law_draw .nil pass0 (pa_cons (pv 0) (pa_cons pe_int pa_nil)))) pa_nil)) (pg_name (i := 2) sc__law_names_right.nd rfl (Or.inl rfl))
        (pss_one (ps_expr (pe_bm PySem.F.plainAttrs_list PySem.F.slot_list_append PySem.F.type_list_append mt_append (pv 1) (pa_cons (pe_call G__law_piece (hr.mono (by decide)) rfl T.g__law_piece T.F__law_piece.kp T.b__law_piece .nil pass0 (pa_cons (pv 0) pa_nil)) pa_nil)))))
      (pss_cons (ps_set (i := 3) sc__law_names_right.nd rfl (Or.inl rfl) (pe_join pe_str (pv 1)))
      (pss_cons (ps_set (i := 4) sc__law_names_right.nd rfl (Or.inl rfl) pe_bl)
      (pss_cons (ps_for PassesOwn.never rfl (iK_list (K := K) rfl (pv 1)) (pg_name (i := 5) sc__law_names_right.nd rfl (Or.inl rfl))
        (pss_one (ps_if (pt_not (pt_val (pe_call G__law_is_name (hr.mono (by decide)) rfl T.g__law_is_name T.F__law_is_name.kp T.b__law_is_name .nil pass0 (pa_cons (pv 5) pa_nil))))
          (pss_one (ps_set (i := 4) sc__law_names_right.nd rfl (Or.inl rfl) pe_bl))
          pss_nil)))
      (pss_cons (ps_set (i := 6) sc__law_names_right.nd rfl (Or.inl rfl) (pe_and (pv 4) (pe_one (pe_cmpR op_eq (pe_callB (id := "len") (cK_len (K := K) rfl) (by rfl) T.z_len (by decide +kernel) (pa_cons (pv 1) pa_nil)) pe_int (nomark _)))))
      (pss_one (ps_ret (pe_and (pe_call G__law_is_bool (hr.mono (by decide)) rfl T.g__law_is_bool T.F__law_is_bool.kp T.b__law_is_bool .nil pass0 (pa_cons (pe_call G_is_name (hr.mono (by decide)) rfl T.g_is_name T.F_is_name.kp T.b_is_name .nil pass0 (pa_cons (pv 3) pa_nil)) (pa_cons (pv 6) pa_nil))) (pe_one (pe_call G__law_is_bool (hr.mono (by decide)) rfl T.g__law_is_bool T.F__law_is_bool.kp T.b__law_is_bool .nil pass0 (pa_cons (pe_call G_is_full_name (hr.mono (by decide)) rfl T.g_is_full_name T.F_is_full_name.kp T.b_is_full_name .nil pass0 (pa_cons (pv 3) pa_nil)) (pa_cons (pv 4) pa_nil))))))))))))), ?_⟩
    walk_at "st"
    refine ⟨sz (by simp), fun p hp => ?_⟩
    have pa : p ≠ a := fun e => by subst e; obtain ⟨_, _, e⟩ := hs; rw [hp] at e; cases e
    have nip : p ∉ [a] := by simpa using pa
    have nia : a ∉ [p] := by simpa using Ne.symm pa
    refine seq_forK ?_
    refine ⟨_, rfl, a, 4, rfl, hs.kp (Kp.new (A := [p]) hp) nia, by decide, by decide, fun r H1 r0 r1 k1 s1 => ?_⟩
    have k1' : Kp [a] H H1 := (Kp.new hp).trans k1
    have h1 : H1 p = some (.lst []) := k1.get upd_same (.inl nip)
    refine ⟨_, _, rfl, rfl, _, rfl, by omega, by omega, for_seq walk_range (fun i σ H' => ∃ (ps : List Str) (v2 v3 v4 v5 v6 : Option V), σ = [some (.ref a), some (.ref p), v2, v3, v4, v5, v6] ∧ H' p = some (.lst (ps.map V.str)) ∧ ps.length = i ∧ (∀ s ∈ ps, s.length ≤ 9 ∧ 46 ∉ TL.tl s) ∧ Kp [a] H H' ∧ Src H' a)
      ⟨[], _, _, _, _, _, rfl, h1, rfl, (fun s h => nomatch h), k1', s1⟩ (fun _ _ _ _ _ => trivial) ?_ ?_⟩
    · rintro i v σ H2 H3 hi ⟨ps, v2, v3, v4, v5, v6, rfl, h2, hl, hps, k2, s2⟩ ⟨rfl, rfl⟩
      walk_at "st"
      refine ⟨_, rfl, .inl ⟨rfl, _, SqL.of h2⟩, _, rfl, a, rfl, s2, fun s H4 sl sd k4 s4 => ?_⟩
      have h4 : H4 p = some (.lst (ps.map V.str)) := k4.get h2 (.inl nip)
      refine ⟨p, _, _, rfl, rfl, h4, szl (by rw [List.length_map]; omega), ?_⟩
      refine ⟨ps ++ [s], _, _, _, _, _, rfl, by rw [upd_same, List.map_append]; rfl, by simp [hl], fun t ht => ?_, (k2.trans k4).put hp, s4.kp (Kp.own (A := [p]) h4 rfl (by simp)) nia⟩
      rcases List.mem_append.mp ht with h | h
      · exact hps t h
      · rw [List.mem_singleton.mp h]; exact ⟨sl, sd⟩
    · rintro σ H2 ⟨ps, v2, v3, v4, v5, v6, rfl, h2, hl, hps, k2, s2⟩
      have hne : ps ≠ [] := fun e => by subst e; simp at hl; omega
      have hl5 : ps.length ≤ 5 := by omega
      have b1 := sum_short fun s hs => (hps s hs).1
      have b2 := join_short fun s hs => (hps s hs).1
      have b3 : (Txt.join "." ps).length ≤ 100000 := by omega
      have hL : SqL K H2 p (ps.map V.str) := SqL.of h2
      walk_at "st"
      refine ⟨⟨_, rfl⟩, _, rfl, _, p, ps, rfl, rfl, .inl hL, (by rw [show ("." : Str).length = 1 by decide +kernel]; omega), ?_⟩
      walk_at "st"
      refine seq_forK ?_
      refine ⟨_, rfl, _, rfl, ⟨_, hL⟩, for_seq walk_list (fun i σ H' => ∃ (v5 : Option V), σ = [some (.ref a), some (.ref p), v2, some (.str (Txt.join "." ps)), some (.bl ((ps.take i).all isName)), v5, v6] ∧ H' = H2)
        ⟨_, rfl, rfl⟩ (fun i σ H' _ z => by obtain ⟨_, _, rfl⟩ := z; exact hL) ?_ ?_⟩
      · rintro i v σ H3 H4 hi ⟨u5, rfl, rfl⟩ ⟨rfl, hv⟩
        rw [List.getElem?_map] at hv
        obtain ⟨s, hs', rfl⟩ := Option.map_eq_some_iff.mp hv
        have hm := hps s (List.mem_of_getElem? hs')
        have st2 : (ps.take (i + 1)).all isName = ((ps.take i).all isName && isName s) := by rw [List.take_add_one, hs', List.all_append]; simp
        walk_at "st"
        refine ⟨_, rfl, s, rfl, Nat.le_trans hm.1 (by decide), _, rfl, ?_⟩
        refine ite2 (fun c => ?_) (fun c => ?_)
        · simp only [Bool.not_eq_true'] at c
          walk_at "st"
          exact ⟨_, by rw [st2, c, Bool.and_false]; rfl, rfl⟩
        · simp only [Bool.not_eq_true', Bool.not_eq_false] at c
          walk_at "st"
          exact ⟨_, by rw [st2, c, Bool.and_true]; rfl, rfl⟩
      · rintro σ H3 ⟨u5, rfl, rfl⟩
        rw [List.length_map, List.take_length]
        refine seq_set (v := .bl (ps.all isName && decide ((ps.length : Int) = 1))) (vl_andV (vl_var rfl) fun _ => vl_op (vl_cb1 (z := .int ps.length) (vl_var rfl) fun Q q => ⟨_, _, rfl, .inl ⟨_, hL, by rw [List.length_map]⟩, q⟩) vl_c fun Q q => ⟨rfl, asB q (by simp)⟩) ?_
        walk_at "st"
        refine ⟨_, rfl, _, rfl, b3, _, rfl, _, _, rfl, (fun _ => ?_), fun n => absurd (isName_join hne fun s hs => (hps s hs).2) n⟩
        refine ⟨true, rfl, ?_⟩
        refine iteT ?_
        refine ⟨_, rfl, _, rfl, b3, fun H4 k4 => ?_⟩
        refine ⟨_, rfl, _, _, rfl, (fun _ => ?_), fun n => absurd (isFull_join hne fun s hs => (hps s hs).2) n⟩
        exact q _ (k2.trans (Kp.nil k4)) (s2.kp k4 List.not_mem_nil)
/-- a list of texts, not at A -/
def Rl (A : List Addr) (H : Hp) (v : V) (ns : List Str) : Prop := ∃ q, v = .ref q ∧ q ∉ A ∧ H q = some (.lst (ns.map V.str))
theorem Rl.kp {A : List Addr} {H H' : Hp} (k : Kp A H H') {v : V} {ns : List Str} (h : Rl A H v ns) : Rl A H' v ns := by
  obtain ⟨q, rfl, n, e⟩ := h
  exact ⟨q, rfl, n, k _ _ e (.inl n)⟩
def sp__law_lists (K : PySem.W.Frag) : Sp := fun vs H Q _ => ∃ (a : Addr), vs = [.ref a] ∧ Src H a ∧
  ∀ (p : Addr) (ls : List V) (nss : List (List Str)) H', H p = none → H' p = some (.lst ls) → All2 (Rl [p, a] H') ls nss → nss.length ≤ 4 → (∀ ns ∈ nss, ns.length ≤ 5 ∧ ∀ s ∈ ns, okS s) → Kp [a] H H' → Q (.ref p) H'
theorem ok__law_lists (T : Txt K mg A D) : FnOk P w K mg base CX0 2 (A 13) (D 13) ["_law_source_here"] (sp__law_lists K) := by
  refine T.F__law_lists.ok sc__law_lists (fun vs H Q E h => ?_) (fun cdv A' outer s H vs Q E hr h => ?_)
  · obtain ⟨a, rfl, hs, q⟩ := h
    rfl
  · obtain ⟨a, rfl, hs, q⟩ := h
    have hu := hu_of hr
    have G__law_draw : FnOk P w K mg base CX0 1 (A 8) (D 8) ["_law_source_here", "_law_limit"] (sp__law_draw K) := ok__law_draw T
    refine ⟨_, (pss_cons (ps_set (i := 1) sc__law_lists.nd rfl (Or.inl rfl) (pe_lst pa_nil))
      (pss_cons (ps_for PassesOwn.never rfl (pi_range1 rfl T.z_range (pa_cons (pe_call G__law_draw (hr.mono (by decide)) rfl T.g__law_draw T.F__law_draw.kp T.b__law_draw .nil pass0 (pa_cons (pv 0) (pa_cons pe_int pa_nil))) pa_nil)) (pg_name (i := 2) sc__law_lists.nd rfl (Or.inl rfl))
        (pss_cons (ps_set (i := 3) sc__law_lists.nd rfl (Or.inl rfl) (pe_lst pa_nil))
        (pss_cons (ps_for PassesOwn.never rfl (pi_range1 rfl T.z_range (pa_cons (pe_call G__law_draw (hr.mono (by decide)) rfl T.g__law_draw T.F__law_draw.kp T.b__law_draw .nil pass0 (pa_cons (pv 0) (pa_cons pe_int pa_nil))) pa_nil)) (pg_name (i := 4) sc__law_lists.nd rfl (Or.inl rfl))
          (pss_cons (ps_set (i := 5) sc__law_lists.nd rfl (Or.inl rfl) (pe_ix ix_str pe_str (pe_call G__law_draw (hr.mono (by decide)) rfl T.g__law_draw T.F__law_draw.kp T.b__law_draw .nil pass0 (pa_cons (pv 0) (pa_cons pe_int pa_nil))) (fun _ _ => rfl)))
          (pss_cons (ps_if (pt_cmpR op_eq (pe_call G__law_draw (hr.mono (by decide)) rfl T.g__law_draw T.F__law_draw.kp T.b__law_draw .nil pass0 (pa_cons (pv 0) (pa_cons pe_int pa_nil))) pe_int (nomark _))
            (pss_one (ps_set (i := 5) sc__law_lists.nd rfl (Or.inl rfl) (pe_op op_add_str (pv 5) (pe_ix ix_str pe_str (pe_call G__law_draw (hr.mono (by decide)) rfl T.g__law_draw T.F__law_draw.kp T.b__law_draw .nil pass0 (pa_cons (pv 0) (pa_cons pe_int pa_nil))) (fun _ _ => rfl)))))
            pss_nil)
          (pss_one (ps_expr (pe_bm PySem.F.plainAttrs_list PySem.F.slot_list_append PySem.F.type_list_append mt_append (pv 3) (pa_cons (pv 5) pa_nil)))))))
        (pss_one (ps_expr (pe_bm PySem.F.plainAttrs_list PySem.F.slot_list_append PySem.F.type_list_append mt_append (pv 1) (pa_cons (pv 3) pa_nil)))))))
      (pss_one (ps_ret (pv 1))))), ?_⟩
    walk_at "st"
    refine ⟨sz (by simp), fun p hp => ?_⟩
    have pa : p ≠ a := fun e => by subst e; obtain ⟨_, _, e⟩ := hs; rw [hp] at e; cases e
    have nip : p ∉ [a] := by simpa using pa
    have nia : a ∉ [p] := by simpa using Ne.symm pa
    refine seq_forK ?_
    refine ⟨_, rfl, a, 5, rfl, hs.kp (Kp.new (A := [p]) hp) nia, by decide, by decide, fun r H1 r0 r1 k1 s1 => ?_⟩
    refine ⟨_, rfl, by omega, by omega, for_seq walk_range (fun i σ H' => ∃ (ls : List V) (nss : List (List Str)) (v2 v3 v4 v5 : Option V), σ = [some (.ref a), some (.ref p), v2, v3, v4, v5] ∧ H' p = some (.lst ls) ∧ All2 (Rl [p, a] H') ls nss ∧ nss.length = i ∧ (∀ ns ∈ nss, ns.length ≤ 5 ∧ ∀ s ∈ ns, okS s) ∧ Kp [a] H H' ∧ Src H' a)
      ⟨[], [], _, _, _, _, rfl, k1.get upd_same (.inl nip), trivial, rfl, (fun ns h => nomatch h), (Kp.new hp).trans k1, s1⟩ (fun _ _ _ _ _ => trivial) ?_ ?_⟩
    · rintro i v σ H2 H3 hi ⟨ls, nss, v2, v3, v4, v5, rfl, h2, hall, hl, h5, k2, s2⟩ ⟨rfl, rfl⟩
      walk_at "st"
      refine ⟨sz (by simp), fun q' hq => ?_⟩
      have qp : p ≠ q' := ne_of_none h2 hq
      have qa : q' ≠ a := fun e => by subst e; obtain ⟨_, _, e⟩ := s2; rw [hq] at e; cases e
      have ka : ∀ o, Kp [a] H3 (upd H3 q' o) := fun o => Kp.new hq
      refine seq_forK ?_
      refine ⟨_, rfl, a, 6, rfl, s2.kp (Kp.new (A := [q']) hq) (by simpa using Ne.symm qa), by decide, by decide, fun m H4 m0 m1 k4 s4 => ?_⟩
      refine ⟨_, rfl, by omega, by omega, for_seq walk_range (fun j σ H' => ∃ (ns : List Str) (v4 v5 : Option V), σ = [some (.ref a), some (.ref p), some (.int (0 + (i : Int))), some (.ref q'), v4, v5] ∧ H' q' = some (.lst (ns.map V.str)) ∧ (ns.length = j ∧ ∀ s ∈ ns, okS s) ∧ Kp [a] H3 H' ∧ Src H' a)
        ⟨[], _, _, rfl, k4.get upd_same (.inl (by simpa using qa)), ⟨rfl, fun s h => nomatch h⟩, (ka _).trans k4, s4⟩ (fun _ _ _ _ _ => trivial) ?_ ?_⟩
      · rintro j v σ H5 H6 hj ⟨ns, u4, u5, rfl, h6, ⟨hl6, ho6⟩, k6, s6⟩ ⟨rfl, rfl⟩
        walk_at "st"
        refine ⟨_, rfl, a, 6, rfl, s6, by decide, by decide, fun r1 H7 r10 r11 k7 s7 => ?_⟩
        obtain ⟨c, hc, hcm⟩ := sign_at (z := "abcxyz") r10 (by rw [show (("abcxyz" : Str).length : Int) = 6 by decide +kernel]; exact r11)
        refine ⟨_, _, c, rfl, rfl, by decide +kernel, hc, ?_⟩
        have h7 : H7 q' = some (.lst (ns.map V.str)) := k7.get h6 (.inl (by simpa using qa))
        walk_at "st"
        refine ⟨_, rfl, a, 3, rfl, s7, by decide, by decide, fun r2 H8 _ _ k8 s8 => ?_⟩
        have h8 : H8 q' = some (.lst (ns.map V.str)) := k8.get h7 (.inl (by simpa using qa))
        refine ⟨rfl, _, rfl, ?_⟩
        have oc1 : okS ⟨#[c]⟩ := fun x hx => by
          have : x = c := by simpa [TL.tl] using hx
          rw [this]; exact (by decide +kernel : ∀ c ∈ TL.tl ("abcxyz" : Str), c < 1114112) c hcm
        have fin : ∀ (s : Str) H9 (v5 : Option V), okS s → H9 q' = some (.lst (ns.map V.str)) → Kp [a] H6 H9 → Src H9 a → ∃ (ns' : List Str) (w4 w5 : Option V), [some (V.ref a), some (.ref p), some (.int (0 + (i : Int))), some (.ref q'), some (.int (0 + (j : Int))), v5] = [some (.ref a), some (.ref p), some (.int (0 + (i : Int))), some (.ref q'), w4, w5] ∧ upd H9 q' (.lst (ns.map V.str ++ [.str s])) q' = some (.lst (ns'.map V.str)) ∧ (ns'.length = j + 1 ∧ ∀ s ∈ ns', okS s) ∧ Kp [a] H3 (upd H9 q' (.lst (ns.map V.str ++ [.str s]))) ∧ Src (upd H9 q' (.lst (ns.map V.str ++ [.str s]))) a := fun s H9 v5 os h9 k9 s9 =>
          ⟨ns ++ [s], _, _, rfl, by rw [upd_same, List.map_append]; rfl, ⟨by simp [hl6], fun t ht => (List.mem_append.mp ht).elim (ho6 t) fun h => by rw [List.mem_singleton.mp h]; exact os⟩, (k6.trans k9).put hq, s9.kp (Kp.own (A := [q']) h9 rfl (by simp)) (by simpa using Ne.symm qa)⟩
        have sz7 : (ns.map V.str).length < sizeLine := szl (by rw [List.length_map]; omega)
        refine ite2 (fun _ => ?_) (fun _ => ?_)
        · walk_at "st"
          refine ⟨_, rfl, _, rfl, a, 3, rfl, s8, by decide, by decide, fun r3 H9 r30 r31 k9 s9 => ?_⟩
          obtain ⟨c2, hc2, hcm2⟩ := sign_at (z := "0b9") r30 (by rw [show (("0b9" : Str).length : Int) = 3 by decide +kernel]; exact r31)
          have h9 : H9 q' = some (.lst (ns.map V.str)) := k9.get h8 (.inl (by simpa using qa))
          refine ⟨_, _, c2, rfl, rfl, by decide +kernel, hc2, _, _, rfl, rfl, by show 2 ≤ sizeLine; decide, ?_⟩
          walk_at "st"
          refine ⟨_, rfl, .inl ⟨rfl, _, SqL.of h9⟩, _, rfl, q', _, _, rfl, rfl, h9, sz7, ?_⟩
          have oc2 : okS (⟨#[c]⟩ ++ ⟨#[c2]⟩ : Str) := fun x hx => by
            rw [TL.tl_append] at hx
            rcases List.mem_append.mp hx with h | h
            · exact oc1 x h
            · have : x = c2 := by simpa [TL.tl] using h
              rw [this]; exact (by decide +kernel : ∀ c ∈ TL.tl ("0b9" : Str), c < 1114112) c2 hcm2
          exact fin _ _ _ oc2 h9 ((k7.trans k8).trans k9) s9
        · walk_at "st"
          refine ⟨_, rfl, .inl ⟨rfl, _, SqL.of h8⟩, _, rfl, q', _, _, rfl, rfl, h8, sz7, ?_⟩
          exact fin _ _ _ oc1 h8 (k7.trans k8) s8
      · rintro σ H5 ⟨ns, u4, u5, rfl, h5', ⟨hl5, ho5⟩, k5, s5⟩
        have hp5 : H5 p = some (.lst ls) := k5.get h2 (.inl nip)
        have qp' : q' ≠ p := Ne.symm qp
        walk_at "st"
        refine ⟨_, rfl, .inl ⟨rfl, _, SqL.of hp5⟩, _, rfl, p, _, _, rfl, rfl, hp5, szl (by rw [hall.length]; omega), ?_⟩
        have kk : ∀ o, Kp [p, a] H5 (upd H5 p o) := fun o => Kp.own hp5 rfl (by simp)
        have all5 : All2 (Rl [p, a] H5) ls nss := All2.imp (fun v n h => Rl.kp (k5.sub (by simp)) h) hall
        refine ⟨ls ++ [.ref q'], nss ++ [ns], _, _, _, _, rfl, upd_same, All2.snoc (All2.imp (fun v n h => Rl.kp (kk _) h) all5) ⟨q', rfl, by simp [qp', qa], (kk _).get h5' (.inl (by simp [qp', qa]))⟩, by simp [hl], fun n hn => ?_, (k2.trans k5).put hp, s5.kp (Kp.own (A := [p]) hp5 rfl (by simp)) nia⟩
        rcases List.mem_append.mp hn with h | h
        · exact h5 n h
        · rw [List.mem_singleton.mp h]; exact ⟨by omega, ho5⟩
    · rintro σ H2 ⟨ls, nss, v2, v3, v4, v5, rfl, h2, hall, hl, h5, k2, s2⟩
      walk_at "st"
      refine ⟨_, rfl, ?_⟩
      exact q p ls nss H2 hp h2 hall (by omega) h5 k2
def sp__law_merged (K : PySem.W.Frag) : Sp := fun vs H Q _ => ∃ (v : V) (p : Addr) (ls : List V) (nss : List (List Str)), vs = [v, .ref p] ∧ H p = some (.lst ls) ∧ All2 (Rl [] H) ls nss ∧ nss.length ≤ 4 ∧ nss.flatten.length < 64 ∧
  ∀ (ys : List Str) r H', Asc ys → (∀ x, x ∈ ys ↔ x ∈ nss.flatten) → Kp [] H H' → H' r = some (.tup (ys.map V.str)) → Q (.ref r) H'
theorem ok__law_merged (T : Txt K mg A D) : FnOk P w K mg base CX0 2 (A 14) (D 14) ["_law_lists_here", "_law_passed"] (sp__law_merged K) := by
  refine T.F__law_merged.ok sc__law_merged (fun vs H Q E h => ?_) (fun cdv A' outer s H vs Q E hr h => ?_)
  · obtain ⟨v, p, ls, nss, rfl, hp, hall, hl4, hfl, q⟩ := h
    rfl
  · obtain ⟨v, p, ls, nss, rfl, hp, hall, hl4, hfl, q⟩ := h
    have hu := hu_of hr
    have G_merge_names : FnR P w K mg base CX0 1 (A 5) (star 0 (sp_merge_names K)) := ok_merge_names T
    refine ⟨_, (pss_cons (ps_if (pt_cmpR op_eq (pe_callB (id := "len") (cK_len (K := K) rfl) (by rfl) T.z_len (by decide +kernel) (pa_cons (pv 1) pa_nil)) pe_int (nomark _))
        (pss_one (ps_ret (pe_callF0 G_merge_names (hr.mono (by decide)) rfl T.g_merge_names T.F_merge_names.kp pass0)))
        pss_nil)
      (pss_cons (ps_if (pt_cmpR op_eq (pe_callB (id := "len") (cK_len (K := K) rfl) (by rfl) T.z_len (by decide +kernel) (pa_cons (pv 1) pa_nil)) pe_int (nomark _))
        (pss_one (ps_ret (pe_callF G_merge_names (hr.mono (by decide)) T.F_merge_names.kp rfl T.g_merge_names pass0 (pa_cons (pe_ix (xK_list (K := K) rfl) (pv 1) pe_int (fun _ _ => rfl)) pa_nil))))
        pss_nil)
      (pss_cons (ps_if (pt_cmpR op_eq (pe_callB (id := "len") (cK_len (K := K) rfl) (by rfl) T.z_len (by decide +kernel) (pa_cons (pv 1) pa_nil)) pe_int (nomark _))
        (pss_one (ps_ret (pe_callF G_merge_names (hr.mono (by decide)) T.F_merge_names.kp rfl T.g_merge_names pass0 (pa_cons (pe_ix (xK_list (K := K) rfl) (pv 1) pe_int (fun _ _ => rfl)) (pa_cons (pe_callTy (T := "tuple") (cK_tuple (K := K) rfl) (by rfl) T.z_tuple (by decide +kernel) (pa_cons (pe_ix (xK_list (K := K) rfl) (pv 1) pe_int (fun _ _ => rfl)) pa_nil)) pa_nil)))))
        pss_nil)
      (pss_cons (ps_if (pt_cmpR op_eq (pe_callB (id := "len") (cK_len (K := K) rfl) (by rfl) T.z_len (by decide +kernel) (pa_cons (pv 1) pa_nil)) pe_int (nomark _))
        (pss_one (ps_ret (pe_callF G_merge_names (hr.mono (by decide)) T.F_merge_names.kp rfl T.g_merge_names pass0 (pa_cons (pe_ix (xK_list (K := K) rfl) (pv 1) pe_int (fun _ _ => rfl)) (pa_cons (pe_ix (xK_list (K := K) rfl) (pv 1) pe_int (fun _ _ => rfl)) (pa_cons (pe_ix (xK_list (K := K) rfl) (pv 1) pe_int (fun _ _ => rfl)) pa_nil))))))
        pss_nil)
      (pss_one (ps_ret (pe_callF G_merge_names (hr.mono (by decide)) T.F_merge_names.kp rfl T.g_merge_names pass0 (pa_cons (pe_callTy (T := "tuple") (cK_tuple (K := K) rfl) (by rfl) T.z_tuple (by decide +kernel) (pa_cons (pe_ix (xK_list (K := K) rfl) (pv 1) pe_int (fun _ _ => rfl)) pa_nil)) (pa_cons (pe_ix (xK_list (K := K) rfl) (pv 1) pe_int (fun _ _ => rfl)) (pa_cons (pe_ix (xK_list (K := K) rfl) (pv 1) pe_int (fun _ _ => rfl)) (pa_cons (pe_ix (xK_list (K := K) rfl) (pv 1) pe_int (fun _ _ => rfl)) pa_nil))))))))))), ?_⟩
    have hll := hall.length
    have hP : SqL K H p ls := SqL.of hp
    have ln : ∀ Q' : VK, Q' (.int (ls.length : Nat)) H → (fun xs H Q => ∃ x n, xs = [x] ∧ LenV K x H n ∧ Q (.int (n : Nat)) H : List V → Hp → VK → Prop) [.ref p] H Q' := fun Q' z => ⟨_, _, rfl, .inl ⟨_, hP, rfl⟩, z⟩
    have tst : ∀ n : Int, An (tTest (tOp rEq (tCB (fun xs H Q => ∃ x n, xs = [x] ∧ LenV K x H n ∧ Q (.int (n : Nat)) H) (tCons (tVar 1) tNil)) (tC (.int n)))) (L2.start N__law_merged [v, .ref p]) H (decide ((ls.length : Int) = n)) := fun n =>
      an_cmp (vl_cb1 (vl_var rfl) ln) vl_c fun Q q => ⟨rfl, asB q (by simp)⟩
    have done : ∀ (t : Addr) (ws : List V) (H1 : Hp), Kp [] H H1 → H1 t = none → All2 (fun v ns => ∃ a, v = .ref a ∧ Sq K (upd H1 t (.tup ws)) a (ns.map V.str)) ws nss → sp_merge_names K [.ref t] (upd H1 t (.tup ws)) Q E0 := fun t ws H1 k1 ht hw =>
      ⟨t, ws, nss, rfl, SqT.of upd_same, hw, hfl, fun ys r H' asc mem k e => q ys r H' asc mem ((k1.trans (Kp.new ht)).trans k) e⟩
    have el : ∀ {v : V} {ns : List Str} {H1 : Hp}, Rl [] H v ns → Kp [] H H1 → ∃ a, v = .ref a ∧ Sq K H1 a (ns.map V.str) := fun h k => by
      obtain ⟨q', rfl, _, e⟩ := h
      exact ⟨q', rfl, .inl (SqL.of (k.get e (.inl List.not_mem_nil)))⟩
    have at0 : ∀ {xs : List V} {H1 : Hp}, H p = some (.lst xs) → Kp [] H H1 → SqL K H1 p xs := fun e k => SqL.of (k.get e (.inl List.not_mem_nil))
    rcases ls with _ | ⟨v0, _ | ⟨v1, _ | ⟨v2, _ | ⟨v3, _ | ⟨v4, ls⟩⟩⟩⟩⟩
    · rcases nss with _ | ⟨n0, nss⟩
      · refine seq_if0 (tst 0) (fun _ => ?_) (fun c => by simp at c)
        walk_at "st"
        exact ⟨[], [], rfl, rfl, Nat.zero_le _, fun t ht => done t [] H Kp.refl ht trivial⟩
      · exact hall.elim
    · rcases nss with _ | ⟨n0, _ | ⟨n1, nss⟩⟩
      · exact hall.elim
      · refine seq_if0 (tst 0) (fun c => by simp at c) (fun _ => ?_)
        refine seq_if0 (tst 1) (fun _ => ?_) (fun c => by simp at c)
        exact ⟨_, rfl, p, _, 0, _, rfl, rfl, hP, rfl, [], _, rfl, rfl, sz (by simp), fun t ht => done t _ _ Kp.refl ht ⟨el hall.1 (Kp.new ht), trivial⟩⟩
      · exact hall.2.elim
    · rcases nss with _ | ⟨n0, _ | ⟨n1, _ | ⟨n2, nss⟩⟩⟩
      · exact hall.elim
      · exact hall.2.elim
      · refine seq_if0 (tst 0) (fun c => by simp at c) (fun _ => ?_)
        refine seq_if0 (tst 1) (fun c => by simp at c) (fun _ => ?_)
        refine seq_if0 (tst 2) (fun _ => ?_) (fun c => by simp at c)
        obtain ⟨q1, rfl, _, e1⟩ := hall.2.1
        refine ⟨_, rfl, p, _, 0, _, rfl, rfl, hP, rfl, _, rfl, p, _, 1, _, rfl, rfl, hP, rfl, q1, _, rfl, .inl ⟨SqL.of e1, fun l hl => ?_⟩⟩
        have kl : ∀ o, Kp [] H (upd H l o) := fun o => Kp.new hl
        refine ⟨[], _, rfl, rfl, sz (by simp), fun t ht => done t _ _ (kl _) ht ⟨el hall.1 ((kl _).trans (Kp.new ht)), ⟨l, rfl, .inr (SqT.of ?_)⟩, trivial⟩⟩
        exact (Kp.new (A := []) ht).get upd_same (.inr rfl)
      · exact hall.2.2.elim
    · rcases nss with _ | ⟨n0, _ | ⟨n1, _ | ⟨n2, _ | ⟨n3, nss⟩⟩⟩⟩
      · exact hall.elim
      · exact hall.2.elim
      · exact hall.2.2.elim
      · refine seq_if0 (tst 0) (fun c => by simp at c) (fun _ => ?_)
        refine seq_if0 (tst 1) (fun c => by simp at c) (fun _ => ?_)
        refine seq_if0 (tst 2) (fun c => by simp at c) (fun _ => ?_)
        refine seq_if0 (tst 3) (fun _ => ?_) (fun c => by simp at c)
        exact ⟨_, rfl, p, _, 0, _, rfl, rfl, hP, rfl, _, rfl, p, _, 1, _, rfl, rfl, hP, rfl, _, rfl, p, _, 2, _, rfl, rfl, hP, rfl, [], _, rfl, rfl, sz (by simp), fun t ht => done t _ _ Kp.refl ht ⟨el hall.1 (Kp.new ht), el hall.2.1 (Kp.new ht), el hall.2.2.1 (Kp.new ht), trivial⟩⟩
      · exact hall.2.2.2.elim
    · rcases nss with _ | ⟨n0, _ | ⟨n1, _ | ⟨n2, _ | ⟨n3, _ | ⟨n4, nss⟩⟩⟩⟩⟩
      · exact hall.elim
      · exact hall.2.elim
      · exact hall.2.2.elim
      · exact hall.2.2.2.elim
      · refine seq_if0 (tst 0) (fun c => by simp at c) (fun _ => ?_)
        refine seq_if0 (tst 1) (fun c => by simp at c) (fun _ => ?_)
        refine seq_if0 (tst 2) (fun c => by simp at c) (fun _ => ?_)
        refine seq_if0 (tst 3) (fun c => by simp at c) (fun _ => ?_)
        obtain ⟨q0, rfl, _, e0⟩ := hall.1
        refine ⟨_, rfl, p, _, 0, _, rfl, rfl, hP, rfl, q0, _, rfl, .inl ⟨SqL.of e0, fun l hl => ?_⟩⟩
        have kl : ∀ o, Kp [] H (upd H l o) := fun o => Kp.new hl
        have hP' := fun o => at0 hp (kl o)
        refine ⟨_, rfl, p, _, 1, _, rfl, rfl, hP' _, rfl, _, rfl, p, _, 2, _, rfl, rfl, hP' _, rfl, _, rfl, p, _, 3, _, rfl, rfl, hP' _, rfl, [], _, rfl, rfl, sz (by simp), fun t ht => ?_⟩
        exact done t _ _ (kl _) ht ⟨⟨l, rfl, .inr (SqT.of ((Kp.new (A := []) ht).get upd_same (.inr rfl)))⟩, el hall.2.1 ((kl _).trans (Kp.new ht)), el hall.2.2.1 ((kl _).trans (Kp.new ht)), el hall.2.2.2.1 ((kl _).trans (Kp.new ht)), trivial⟩
      · exact hall.2.2.2.2.elim
    · simp at hll; omega
theorem Kp.fresh {H H1 H2 : Hp} {p : Addr} (hp : H p = none) (k : Kp [] H H1) (k' : Kp [p] H1 H2) : Kp [] H H2 := Kp.back hp (k.nil.trans k')
theorem Rl.sub {A B : List Addr} {H : Hp} (k : ∀ a ∈ B, a ∈ A) {v : V} {ns : List Str} (h : Rl A H v ns) : Rl B H v ns := by
  obtain ⟨q, e, n, x⟩ := h
  exact ⟨q, e, fun m => n (k _ m), x⟩
/-- lists of texts as data -/
def dL (ns : List Str) : PyData := .list (ns.map .str)
theorem dpStrs {K : PySem.W.Frag} {H : Hp} : ∀ (ss : List Str), DpAll K H (ss.map V.str) (ss.map .str)
  | [] => .nil
  | s :: ss => .cons (.str s) (dpStrs ss)
theorem Rl.dp {A : List Addr} {K : PySem.W.Frag} {H : Hp} {v : V} {ns : List Str} (h : Rl A H v ns) : Dp K H v (dL ns) := by
  obtain ⟨q, rfl, _, e⟩ := h
  exact .lst (SqL.of e) (dpStrs ns)
theorem Rl.dps {A : List Addr} {K : PySem.W.Frag} {H : Hp} : ∀ {ls : List V} {nss : List (List Str)}, All2 (Rl A H) ls nss → DpAll K H ls (nss.map dL)
  | [], [], _ => .nil
  | [], _ :: _, h => h.elim
  | _ :: _, [], h => h.elim
  | _ :: _, _ :: _, h => .cons h.1.dp (Rl.dps h.2)
theorem shp {nss : List (List Str)} (h : ∀ ns ∈ nss, ns.length ≤ 5 ∧ ∀ s ∈ ns, okS s) : SeqAt.shaped (.list (nss.map dL)) = true := by
  refine shaped_of ?_ ?_
  · rw [PyData.canLay0]
    refine lay_map fun ns hn => ?_
    rw [dL, PyData.canLay0]
    exact lay_map fun s hs => ((h ns hn).2 s hs).ok
  · rw [PyData.depth]
    have : PyData.depthAll (nss.map dL) ≤ 1 := depth_map fun ns _ => by
      rw [dL, PyData.depth]
      have := depth_map (f := PyData.str) (k := 0) (xs := ns) fun s _ => Nat.le_refl _
      omega
    omega
theorem flat_len {nss : List (List Str)} {k : Nat} (h : ∀ ns ∈ nss, ns.length ≤ k) : nss.flatten.length ≤ nss.length * k := by
  induction nss with
  | nil => simp
  | cons n nss ih =>
    have h1 := h n (List.mem_cons_self ..)
    have h2 := ih fun x hx => h x (List.mem_cons_of_mem _ hx)
    simp only [List.flatten_cons, List.length_append, List.length_cons, Nat.succ_mul]
    omega
def sp_law (K : PySem.W.Frag) : Sp := fun vs H Q _ => ∃ (a : Addr) (ns : List Int), vs = [.ref a] ∧ SqL K H a (ns.map V.int) ∧ ns.length ≤ 63 ∧ ∀ H', Q (.bl true) H'
theorem ok_law (T : Txt K mg A D) : FnOk P w K mg base CX0 4 (A 15) (D 15) ["_law_script"] (sp_law K) := by
  refine T.F_law.ok sc_law (fun vs H Q E h => ?_) (fun cdv A' outer s H vs Q E hr h => ?_)
  · obtain ⟨a, ns, rfl, hS, hl, q⟩ := h
    rfl
  · obtain ⟨a, ns, rfl, hS, hl, q⟩ := h
    have hu := hu_of hr
    have G__law_source : FnOk P w K mg base CX0 1 (A 7) (D 7) ["_law_script", "_law_k"] (sp__law_source K) := ok__law_source T
    have G__law_lists : FnOk P w K mg base CX0 2 (A 13) (D 13) ["_law_source_here"] (sp__law_lists K) := ok__law_lists T
    have G__law_merged : FnOk P w K mg base CX0 2 (A 14) (D 14) ["_law_lists_here", "_law_passed"] (sp__law_merged K) := ok__law_merged T
    have G__law_names_right : FnOk P w K mg base CX0 3 (A 12) (D 12) ["_law_source_here"] (sp__law_names_right K) := ok__law_names_right T
    refine ⟨_, (pss_cons (ps_set (i := 1) sc_law.nd rfl (Or.inl rfl) (pe_call G__law_source (hr.mono (by decide)) rfl T.g__law_source T.F__law_source.kp T.b__law_source .nil pass0 (pa_cons (pv 0) (pa_cons pe_int pa_nil))))
      (pss_cons (ps_for PassesOwn.never rfl (pi_range1 rfl T.z_range (pa_cons pe_int pa_nil)) (pg_name (i := 2) sc_law.nd rfl (Or.inl rfl))
        (pss_one (ps_if (pt_not (pt_val (pe_call G__law_names_right (hr.mono (by decide)) rfl T.g__law_names_right T.F__law_names_right.kp T.b__law_names_right .nil pass0 (pa_cons (pv 1) pa_nil))))
          (pss_one (ps_ret pe_bl))
          pss_nil)))
      (pss_cons (ps_set (i := 3) sc_law.nd rfl (Or.inr rfl) (pe_call G__law_lists (hr.mono (by decide)) rfl T.g__law_lists T.F__law_lists.kp T.b__law_lists .nil pass0 (pa_cons (pe_call G__law_source (hr.mono (by decide)) rfl T.g__law_source T.F__law_source.kp T.b__law_source .nil pass0 (pa_cons (pv 0) (pa_cons pe_int pa_nil))) pa_nil)))
      (pss_cons (ps_setLc (i := 5) (own := [("_law_names", 4)]) (g := gName 4) (tt := tYes) rfl sc_law.nd rfl rfl (sw_true rfl rfl rfl (by decide +kernel))  (iK_list (K := K) rfl (pv 3)) (blkOk_by (N := N_law) (sc := defScope (topS 15)) (by decide +kernel)) (fun _ _ _ _ _ => (pg_name (i := 4) sc_law.nd rfl (Or.inl rfl))) (fun _ _ _ _ _ => pts_nil) (fun _ _ _ _ _ => (pe_callTy (T := "list") (cK_list (K := K) rfl) (by rfl) T.z_list (by decide +kernel) (pa_cons (pv 4) pa_nil))))
      (pss_cons (ps_set (i := 6) sc_law.nd rfl (Or.inl rfl) (pe_call G__law_merged (hr.mono (by decide)) rfl T.g__law_merged T.F__law_merged.kp T.b__law_merged .nil pass0 (pa_cons (pv 3) (pa_cons (pv 5) pa_nil))))
      (pss_cons (ps_if (PW.pt (pw_or (pt_cmpR (oK_neD (K := K) rfl hr.units) (pv 5) (pv 3) (nomark _)) (pw_or1 (pt_not (pt_val (pe_callB (id := "isinstance") (cK_isi (K := K) rfl) (by rfl) T.z_isinstance (by decide +kernel) (pa_cons (pv 6) (pa_cons (pe_bltn (v := .ty "tuple") (u := .type "tuple") (by rfl) T.z_tuple (by decide +kernel) rfl) pa_nil))))))))
        (pss_one (ps_ret pe_bl))
        pss_nil)
      (pss_cons (ps_for PassesOwn.never rfl (iK_tup (K := K) rfl (pv 6)) (pg_name (i := 7) sc_law.nd rfl (Or.inr rfl))
        (pss_one (ps_if (pt_not (pt_val (pe_callB (id := "isinstance") (cK_isi (K := K) rfl) (by rfl) T.z_isinstance (by decide +kernel) (pa_cons (pv 7) (pa_cons (pe_bltn (v := .ty "str") (u := .type "str") (by rfl) T.z_str (by decide +kernel) rfl) pa_nil)))))
          (pss_one (ps_ret pe_bl))
          pss_nil)))
      (pss_cons (ps_for PassesOwn.never rfl (pi_range2 rfl T.z_range (pa_cons pe_int (pa_cons (pe_callB (id := "len") (cK_len (K := K) rfl) (by rfl) T.z_len (by decide +kernel) (pa_cons (pv 6) pa_nil)) pa_nil))) (pg_name (i := 2) sc_law.nd rfl (Or.inl rfl))
        (pss_one (ps_if (pt_cmpR op_ge_str (pe_ix (xK_tup (K := K) rfl) (pv 6) (pe_op op_sub (pv 2) pe_int) (fun _ _ => rfl)) (pe_ix (xK_tup (K := K) rfl) (pv 6) (pv 2) (fun _ _ => rfl)) (nomark _))
          (pss_one (ps_ret pe_bl))
          pss_nil)))
      (pss_cons (ps_for PassesOwn.never rfl (iK_list (K := K) rfl (pv 3)) (pg_name (i := 4) sc_law.nd rfl (Or.inl rfl))
        (pss_one (ps_for PassesOwn.never rfl (iK_list (K := K) rfl (pv 4)) (pg_name (i := 7) sc_law.nd rfl (Or.inr rfl))
          (pss_one (ps_if (pt_cmpR (oK_nin (K := K) rfl) (pv 7) (pv 6) rfl)
            (pss_one (ps_ret pe_bl))
            pss_nil)))))
      (pss_cons (ps_for PassesOwn.never rfl (iK_tup (K := K) rfl (pv 6)) (pg_name (i := 7) sc_law.nd rfl (Or.inr rfl))
        (pss_one (ps_if (pt_cmpR op_eq (pe_callB (id := "len") (cK_len (K := K) rfl) (by rfl) T.z_len (by decide +kernel) (pa_cons (pe_lc (own := [("_law_k", 2)]) (g := gName 2)  rfl sc_law.nd (pi_range1 rfl T.z_range (pa_cons (pe_callB (id := "len") (cK_len (K := K) rfl) (by rfl) T.z_len (by decide +kernel) (pa_cons (pv 3) pa_nil)) pa_nil)) (blkOk_by (N := N_law) (sc := defScope (topS 15)) (by decide +kernel)) (fun _ _ _ _ _ => (pg_name (i := 2) sc_law.nd rfl (Or.inl rfl))) (fun _ _ _ _ _ => (pts_one (pt_cmpR (oK_in (K := K) rfl) (pv 7) (pe_ix (xK_list (K := K) rfl) (pv 3) (pv 2) (fun _ _ => rfl)) rfl))) (fun _ _ _ _ _ => (pv 2))) pa_nil)) pe_int (nomark _))
          (pss_one (ps_ret pe_bl))
          pss_nil)))
      (pss_one (ps_ret pe_bl)))))))))))), ?_⟩
    walk_at "st"
    refine ⟨_, rfl, a, ns, 0, rfl, hS, hl, fun p H1 hp k1 s1 => ?_⟩
    refine seq_forK ?_
    refine ⟨_, rfl, by decide, by decide, for_seq walk_range (fun i σ H' => ∃ (v2 v3 v4 v5 v6 v7 : Option V), σ = [some (.ref a), some (.ref p), v2, v3, v4, v5, v6, v7] ∧ Kp [] H H' ∧ Src H' p)
      ⟨_, _, _, _, _, _, rfl, k1, s1⟩ (fun _ _ _ _ _ => trivial) ?_ ?_⟩
    · rintro i v σ H2 H3 hi ⟨v2, v3, v4, v5, v6, v7, rfl, k2, s2⟩ ⟨rfl, rfl⟩
      walk_at "st"
      refine ⟨_, rfl, p, rfl, s2, fun H4 k4 s4 => ?_⟩
      refine ⟨_, rfl, ?_⟩
      refine iteF ?_
      exact ⟨_, _, _, _, _, _, rfl, k2.fresh hp k4, s4⟩
    rintro σ H2 ⟨v2, v3, v4, v5, v6, v7, rfl, k2, s2⟩
    walk_at "st"
    refine ⟨_, rfl, a, ns, 1, rfl, k2.sqL List.not_mem_nil hS, hl, fun p2 H3 hp2 k3 s3 => ?_⟩
    refine ⟨p2, rfl, s3, fun P ls nss H4 hP hP4 hall h4 h5 k4 => ?_⟩
    have hL4 : SqL K H4 P ls := SqL.of hP4
    walk_at "st"
    refine ⟨_, rfl, _, rfl, ⟨_, hL4⟩, fun D hD => lc_it walk_list (fun i H' => ∃ acc, H' D = some (.lst acc) ∧ All2 (Rl [D] H') acc (nss.take i) ∧ acc.length = i ∧ Kp [] H4 H')
      ⟨[], upd_same, trivial, rfl, Kp.new hD⟩ (fun i H' _ z => by obtain ⟨_, _, _, _, k⟩ := z; exact k.sqL List.not_mem_nil hL4) ?_ ?_⟩
    · rintro i v H5 H6 hi ⟨acc, e6, hacc, hla, k6⟩ ⟨rfl, hv⟩
      obtain ⟨n, hn, q', rfl, nq, eq4⟩ := hall.at hv
      have e4 : H6 q' = some (.lst (n.map V.str)) := k6.get eq4 (.inl List.not_mem_nil)
      refine gnK ?_
      refine ⟨rfl, ?_⟩
      refine yesK ?_
      refine iteT ?_
      refine ⟨_, rfl, q', _, rfl, .inl (SqL.of e4), fun l hl' => ?_⟩
      have Dl : D ≠ l := ne_of_none e6 hl'
      have kk : ∀ o, Kp [D] H6 (upd (upd H6 l (.lst (n.map V.str))) D o) := fun o => (Kp.new hl').trans (Kp.own (by rw [upd_ne Dl]; exact e6) rfl (by simp))
      refine ⟨acc, by rw [upd_ne Dl]; exact e6, szl (by rw [hla]; have := hall.length; omega), acc ++ [.ref l], upd_same, ?_, by simp [hla], Kp.back hD (k6.nil.trans (kk _))⟩
      rw [List.take_add_one, hn]
      exact All2.snoc (All2.imp (fun v n h => Rl.kp (kk _) h) hacc) ⟨l, rfl, by simp [Ne.symm Dl], by rw [upd_ne (Ne.symm Dl)]; exact upd_same⟩
    rintro H5 ⟨acc, e5, hacc, hla, k5⟩
    rw [hall.length, List.take_length] at hacc
    have fl : nss.flatten.length < 64 := by
      have := flat_len (k := 5) fun x hx => (h5 x hx).1
      have : nss.length * 5 ≤ 20 := by omega
      omega
    walk_at "st"
    refine ⟨_, rfl, _, rfl, _, D, acc, nss, rfl, e5, All2.imp (fun v n h => h.sub (by simp)) hacc, h4, fl, fun ys r H6 asc mem k6 e6 => ?_⟩
    have hD6 : H6 D = some (.lst acc) := k6.get e5 (.inl List.not_mem_nil)
    have hP6 : H6 P = some (.lst ls) := (k5.trans k6).get hP4 (.inl List.not_mem_nil)
    have all6 : All2 (Rl [] H6) ls nss := All2.imp (fun v n h => (h.sub (by simp)).kp (k5.trans k6)) hall
    have acc6 : All2 (Rl [] H6) acc nss := All2.imp (fun v n h => (h.sub (by simp)).kp k6) hacc
    refine seq_if0 (b := false) ?_ (fun c => Bool.noConfusion c) (fun _ => ?_)
    · refine An.to (an_or (a := false) (b := false) (an_cmp (vl_var rfl) (vl_var rfl) fun Q q => ⟨.list (nss.map dL), .list (nss.map dL), .lst (SqL.of hD6) (Rl.dps acc6), .lst (SqL.of hP6) (Rl.dps all6), shp h5, shp h5, asB q ?_⟩) fun _ => ?_) rfl
      · rw [SeqAt.eqv_refl _ (Bool.and_eq_true_iff.mp (shp h5)).1]; rfl
      · exact an_not (a := true) (an_val (vl_cb2 (vl_var rfl) vl_c fun Q q => ⟨_, _, _, _, true, rfl, .ty "tuple", .base (.tup e6), kit_ty (by decide +kernel), q⟩))
    have hR6 : SqT K H6 r (ys.map V.str) := SqT.of e6
    have hL6 : SqL K H6 P ls := SqL.of hP6
    -- each is a text
    refine seq_forK ?_
    refine ⟨_, rfl, _, rfl, ⟨_, hR6⟩, for_seq walk_tup (fun i σ H' => ∃ (u2 u4 u7 : Option V), σ = [some (.ref a), some (.ref p), u2, some (.ref P), u4, some (.ref D), some (.ref r), u7] ∧ H' = H6)
      ⟨_, _, _, rfl, rfl⟩ (fun i σ H' _ z => by obtain ⟨_, _, _, _, rfl⟩ := z; exact hR6) ?_ ?_⟩
    · rintro i v σ H7 H8 hi ⟨u2, u4, u7, rfl, rfl⟩ ⟨rfl, hv⟩
      rw [List.getElem?_map] at hv
      obtain ⟨s, hs, rfl⟩ := Option.map_eq_some_iff.mp hv
      refine gnK ?_
      refine if_an (b := false) (An.to (an_not (a := true) (an_val (vl_cb2 (vl_var rfl) vl_c fun Q q => ⟨_, _, _, _, true, rfl, .ty "str", .base (.str s), kit_ty (by decide +kernel), q⟩))) rfl) (fun c => Bool.noConfusion c) (fun _ => ?_)
      exact ⟨_, _, _, rfl, rfl⟩
    rintro σ H7 ⟨u2, u4, u7, rfl, rfl⟩
    -- ascending
    refine seq_forK ?_
    refine ⟨_, rfl, _, _, rfl, .inr ⟨_, hR6, rfl⟩, _, _, rfl, ⟨by decide, by decide, by omega, by rw [List.length_map]; have := nodup_short asc.nodup fun x hx => (mem x).mp hx; omega⟩, for_seq walk_range (fun i σ H' => ∃ (u2 u4 u7 : Option V), σ = [some (.ref a), some (.ref p), u2, some (.ref P), u4, some (.ref D), some (.ref r), u7] ∧ H' = H7)
      ⟨_, _, _, rfl, rfl⟩ (fun _ _ _ _ _ => trivial) ?_ ?_⟩
    · rintro i v σ H8 H9 hi ⟨u2, u4, u7, rfl, rfl⟩ ⟨rfl, rfl⟩
      rw [List.length_map] at hi
      have i1 : i + 1 < ys.length := by omega
      have i0 : i < ys.length := by omega
      have lt := List.pairwise_iff_getElem.mp asc i (i + 1) i0 i1 (Nat.lt_succ_self i)
      refine gnK ?_
      refine if_an (b := false) (An.to (an_cmp (x := .str ys[i]) (y := .str ys[i + 1]) (vl_op (vl_var rfl) (vl_op (vl_var rfl) vl_c fun Q q => ⟨_, _, rfl, rfl, q⟩) fun Q q => ⟨_, _, _, _, rfl, rfl, hR6, at_of (j := i) (by omega) (by simp [i0]), q⟩) (vl_op (vl_var rfl) (vl_var rfl) fun Q q => ⟨_, _, _, _, rfl, rfl, hR6, at_of (j := i + 1) (by omega) (by simp [i1]), q⟩) fun Q q => ⟨_, _, rfl, rfl, q⟩) (by simp only [Bool.not_eq_false', decide_eq_true_eq]; exact lt)) (fun c => Bool.noConfusion c) (fun _ => ?_)
      exact ⟨_, _, _, rfl, rfl⟩
    rintro σ H8 ⟨u2, u4, u7, rfl, rfl⟩
    -- every name is there
    refine seq_forK ?_
    refine ⟨_, rfl, _, rfl, ⟨_, hL6⟩, for_seq walk_list (fun i σ H' => ∃ (u2 u4 u7 : Option V), σ = [some (.ref a), some (.ref p), u2, some (.ref P), u4, some (.ref D), some (.ref r), u7] ∧ H' = H8)
      ⟨_, _, _, rfl, rfl⟩ (fun i σ H' _ z => by obtain ⟨_, _, _, _, rfl⟩ := z; exact hL6) ?_ ?_⟩
    · rintro i v σ H9 H10 hi ⟨u2, u4, u7, rfl, rfl⟩ ⟨rfl, hv⟩
      obtain ⟨n, hn, q', rfl, _, eq6⟩ := all6.at hv
      have hN : SqL K H10 q' (n.map V.str) := SqL.of eq6
      refine gnK ?_
      refine ⟨_, rfl, _, rfl, ⟨_, hN⟩, for_it walk_list (fun i σ H' => ∃ (u2 u7 : Option V), σ = [some (.ref a), some (.ref p), u2, some (.ref P), some (.ref q'), some (.ref D), some (.ref r), u7] ∧ H' = H10)
        ⟨_, _, rfl, rfl⟩ (fun i σ H' _ z => by obtain ⟨_, _, _, rfl⟩ := z; exact hN) ?_ ?_⟩
      · rintro j v σ H11 H12 hj ⟨w2, w7, rfl, rfl⟩ ⟨rfl, hv2⟩
        rw [List.getElem?_map] at hv2
        obtain ⟨s, hs, rfl⟩ := Option.map_eq_some_iff.mp hv2
        refine gnK ?_
        refine if_an (b := false) (An.to (an_cmp (vl_var rfl) (vl_var rfl) fun Q q => ⟨_, _, rfl, .inr hR6, rfl, flat_strs ys, q⟩) ?_) (fun c => Bool.noConfusion c) (fun _ => ?_)
        · rw [if_pos rfl, inV_strs, decide_eq_true ((mem s).mpr (List.mem_flatten.mpr ⟨n, List.mem_of_getElem? hn, List.mem_of_getElem? hs⟩))]; rfl
        exact ⟨_, _, rfl, rfl⟩
      · rintro σ H11 ⟨w2, w7, rfl, rfl⟩
        exact ⟨_, _, _, rfl, rfl⟩
    rintro σ H9 ⟨u2, u4, u7, rfl, rfl⟩
    -- and each comes from a list
    refine seq_forK ?_
    refine ⟨_, rfl, _, rfl, ⟨_, hR6⟩, for_seq walk_tup (fun i σ H' => ∃ (u2 u4 u7 : Option V), σ = [some (.ref a), some (.ref p), u2, some (.ref P), u4, some (.ref D), some (.ref r), u7] ∧ Kp [] H9 H')
      ⟨_, _, _, rfl, Kp.refl⟩ (fun i σ H' _ z => by obtain ⟨_, _, _, _, k⟩ := z; exact k.sqT hR6) ?_ ?_⟩
    · rintro i v σ H10 H11 hi ⟨u2, u4, u7, rfl, k11⟩ ⟨rfl, hv⟩
      rw [List.getElem?_map] at hv
      obtain ⟨s, hs, rfl⟩ := Option.map_eq_some_iff.mp hv
      refine gnK ?_
      have sm : s ∈ nss.flatten := (mem s).mp (List.mem_of_getElem? hs)
      have hL11 : SqL K H11 P ls := k11.sqL List.not_mem_nil hL6
      have all11 : All2 (Rl [] H11) ls nss := All2.imp (fun v n h => h.kp k11) all6
      refine if_anK ?_
      refine ⟨_, rfl, _, _, rfl, .inl ⟨_, hL11, rfl⟩, _, rfl, by omega, (by have := all11.length; omega), fun D2 hD2 => lc_it walk_range (fun i H' => ∃ acc, H' D2 = some (.lst acc) ∧ (s ∈ (nss.take i).flatten → acc ≠ []) ∧ acc.length ≤ i ∧ Kp [] H11 H')
        ⟨[], upd_same, fun h => by simp at h, Nat.le_refl _, Kp.new hD2⟩ (fun _ _ _ _ => trivial) ?_ ?_⟩
      · rintro j x H12 H13 hj ⟨acc, ea, hne, hla, ka⟩ ⟨rfl, rfl⟩
        have hj' : j < ls.length := by omega
        obtain ⟨n, hn, q', eq', _, eqq⟩ := all11.at (List.getElem?_eq_getElem hj')
        have hN : SqL K H13 q' (n.map V.str) := ka.sqL List.not_mem_nil (SqL.of eqq)
        have hL13 : SqL K H13 P ls := ka.sqL List.not_mem_nil hL11
        refine gnK ?_
        refine ⟨rfl, ?_⟩
        refine ⟨_, rfl, _, rfl, _, rfl, _, _, _, .ref q', rfl, rfl, hL13, at_of (j := j) (by omega) (by rw [List.getElem?_eq_getElem hj', eq']), q', _, rfl, .inl hN, rfl, flat_strs n, _, rfl, ?_⟩
        rw [if_neg Bool.false_ne_true, inV_strs]
        refine ite2 (fun c => ?_) (fun c => ?_)
        · refine ⟨_, rfl, acc, ea, szl (by have := all11.length; omega), acc ++ [_], upd_same, fun _ h => by simp at h, by simp; omega, ka.put hD2⟩
        · refine ⟨acc, ea, fun h => hne ?_, by omega, ka⟩
          rw [List.take_add_one, hn] at h
          simp only [Option.toList_some, List.flatten_append, List.flatten_cons, List.flatten_nil, List.append_nil, List.mem_append] at h
          rcases h with h | h
          · exact h
          · simp only [decide_eq_true_eq] at c; exact absurd h c
      · rintro H12 ⟨acc, ea, hne, hla, ka⟩
        have hz : ((ls.length : Nat) : Int).toNat = nss.length := by have := all11.length; omega
        rw [hz, List.take_length] at hne
        refine ⟨_, _, rfl, .inl ⟨_, SqL.of ea, rfl⟩, rfl, _, rfl, ?_⟩
        have nz : ¬ decide (V.int (acc.length : Nat) = V.int 0) = true := by
          intro c
          simp only [decide_eq_true_eq, V.int.injEq] at c
          exact hne sm (List.length_eq_zero_iff.mp (by omega))
        refine ite2 (fun c => absurd c nz) (fun _ => ?_)
        exact ⟨_, _, _, rfl, k11.trans ka⟩
    rintro σ H10 ⟨u2, u4, u7, rfl, k10⟩
    walk_at "st"
    exact q _
end
theorem all_mk {l : PySem.W.OpenLaw} {w : World} {K : PySem.W.Frag} {h : Heap} {mg : Str → Option Value} {fa : Addr} (X : K.In h) (G : h.Ns mainGlobals mg) (hfa : mg "law" = some (.ref fa))
    {oc3 kV3 dc3 pm3 cd3 ct3 : Value} {od3 an3 : Option Addr} {sl3 : Array (Option Value)} {f3 : Addr}
    (a3 : PySem.W.nsIn K mainGlobals "is_name" = some (some (.ref f3))) (l3 : K.lookup f3 = some ⟨oc3, od3, .func (PySem.W.fnOf "is_name" "is_name" (defArgs (topS 3)) (defBody (topS 3)) (defScope (topS 3)) .none kV3 dc3 pm3 an3 cd3 ct3), sl3⟩) (c3 : PySem.W.codeIn K cd3 "is_name" = true) (k3 : PySem.W.keepIn K (.ref f3) = true)
    {oc4 kV4 dc4 pm4 cd4 ct4 : Value} {od4 an4 : Option Addr} {sl4 : Array (Option Value)} {f4 : Addr}
    (a4 : PySem.W.nsIn K mainGlobals "is_full_name" = some (some (.ref f4))) (l4 : K.lookup f4 = some ⟨oc4, od4, .func (PySem.W.fnOf "is_full_name" "is_full_name" (defArgs (topS 4)) (defBody (topS 4)) (defScope (topS 4)) .none kV4 dc4 pm4 an4 cd4 ct4), sl4⟩) (c4 : PySem.W.codeIn K cd4 "is_full_name" = true) (k4 : PySem.W.keepIn K (.ref f4) = true)
    {oc5 kV5 dc5 pm5 cd5 ct5 : Value} {od5 an5 : Option Addr} {sl5 : Array (Option Value)} {f5 : Addr}
    (a5 : PySem.W.nsIn K mainGlobals "merge_names" = some (some (.ref f5))) (l5 : K.lookup f5 = some ⟨oc5, od5, .func (PySem.W.fnOf "merge_names" "merge_names" (defArgs (topS 5)) (defBody (topS 5)) (defScope (topS 5)) .none kV5 dc5 pm5 an5 cd5 ct5), sl5⟩) (c5 : PySem.W.codeIn K cd5 "merge_names" = true) (k5 : PySem.W.keepIn K (.ref f5) = true)
    {oc7 kV7 dc7 pm7 cd7 ct7 : Value} {od7 an7 : Option Addr} {sl7 : Array (Option Value)} {f7 : Addr}
    (a7 : PySem.W.nsIn K mainGlobals "_law_source" = some (some (.ref f7))) (l7 : K.lookup f7 = some ⟨oc7, od7, .func (PySem.W.fnOf "_law_source" "_law_source" (defArgs (topS 7)) (defBody (topS 7)) (defScope (topS 7)) .none kV7 dc7 pm7 an7 cd7 ct7), sl7⟩) (c7 : PySem.W.codeIn K cd7 "_law_source" = true) (k7 : PySem.W.keepIn K (.ref f7) = true)
    {oc8 kV8 dc8 pm8 cd8 ct8 : Value} {od8 an8 : Option Addr} {sl8 : Array (Option Value)} {f8 : Addr}
    (a8 : PySem.W.nsIn K mainGlobals "_law_draw" = some (some (.ref f8))) (l8 : K.lookup f8 = some ⟨oc8, od8, .func (PySem.W.fnOf "_law_draw" "_law_draw" (defArgs (topS 8)) (defBody (topS 8)) (defScope (topS 8)) .none kV8 dc8 pm8 an8 cd8 ct8), sl8⟩) (c8 : PySem.W.codeIn K cd8 "_law_draw" = true) (k8 : PySem.W.keepIn K (.ref f8) = true)
    {oc9 kV9 dc9 pm9 cd9 ct9 : Value} {od9 an9 : Option Addr} {sl9 : Array (Option Value)} {f9 : Addr}
    (a9 : PySem.W.nsIn K mainGlobals "_law_piece" = some (some (.ref f9))) (l9 : K.lookup f9 = some ⟨oc9, od9, .func (PySem.W.fnOf "_law_piece" "_law_piece" (defArgs (topS 9)) (defBody (topS 9)) (defScope (topS 9)) .none kV9 dc9 pm9 an9 cd9 ct9), sl9⟩) (c9 : PySem.W.codeIn K cd9 "_law_piece" = true) (k9 : PySem.W.keepIn K (.ref f9) = true)
    {oc10 kV10 dc10 pm10 cd10 ct10 : Value} {od10 an10 : Option Addr} {sl10 : Array (Option Value)} {f10 : Addr}
    (a10 : PySem.W.nsIn K mainGlobals "_law_is_name" = some (some (.ref f10))) (l10 : K.lookup f10 = some ⟨oc10, od10, .func (PySem.W.fnOf "_law_is_name" "_law_is_name" (defArgs (topS 10)) (defBody (topS 10)) (defScope (topS 10)) .none kV10 dc10 pm10 an10 cd10 ct10), sl10⟩) (c10 : PySem.W.codeIn K cd10 "_law_is_name" = true) (k10 : PySem.W.keepIn K (.ref f10) = true)
    {oc11 kV11 dc11 pm11 cd11 ct11 : Value} {od11 an11 : Option Addr} {sl11 : Array (Option Value)} {f11 : Addr}
    (a11 : PySem.W.nsIn K mainGlobals "_law_is_bool" = some (some (.ref f11))) (l11 : K.lookup f11 = some ⟨oc11, od11, .func (PySem.W.fnOf "_law_is_bool" "_law_is_bool" (defArgs (topS 11)) (defBody (topS 11)) (defScope (topS 11)) .none kV11 dc11 pm11 an11 cd11 ct11), sl11⟩) (c11 : PySem.W.codeIn K cd11 "_law_is_bool" = true) (k11 : PySem.W.keepIn K (.ref f11) = true)
    {oc12 kV12 dc12 pm12 cd12 ct12 : Value} {od12 an12 : Option Addr} {sl12 : Array (Option Value)} {f12 : Addr}
    (a12 : PySem.W.nsIn K mainGlobals "_law_names_right" = some (some (.ref f12))) (l12 : K.lookup f12 = some ⟨oc12, od12, .func (PySem.W.fnOf "_law_names_right" "_law_names_right" (defArgs (topS 12)) (defBody (topS 12)) (defScope (topS 12)) .none kV12 dc12 pm12 an12 cd12 ct12), sl12⟩) (c12 : PySem.W.codeIn K cd12 "_law_names_right" = true) (k12 : PySem.W.keepIn K (.ref f12) = true)
    {oc13 kV13 dc13 pm13 cd13 ct13 : Value} {od13 an13 : Option Addr} {sl13 : Array (Option Value)} {f13 : Addr}
    (a13 : PySem.W.nsIn K mainGlobals "_law_lists" = some (some (.ref f13))) (l13 : K.lookup f13 = some ⟨oc13, od13, .func (PySem.W.fnOf "_law_lists" "_law_lists" (defArgs (topS 13)) (defBody (topS 13)) (defScope (topS 13)) .none kV13 dc13 pm13 an13 cd13 ct13), sl13⟩) (c13 : PySem.W.codeIn K cd13 "_law_lists" = true) (k13 : PySem.W.keepIn K (.ref f13) = true)
    {oc14 kV14 dc14 pm14 cd14 ct14 : Value} {od14 an14 : Option Addr} {sl14 : Array (Option Value)} {f14 : Addr}
    (a14 : PySem.W.nsIn K mainGlobals "_law_merged" = some (some (.ref f14))) (l14 : K.lookup f14 = some ⟨oc14, od14, .func (PySem.W.fnOf "_law_merged" "_law_merged" (defArgs (topS 14)) (defBody (topS 14)) (defScope (topS 14)) .none kV14 dc14 pm14 an14 cd14 ct14), sl14⟩) (c14 : PySem.W.codeIn K cd14 "_law_merged" = true) (k14 : PySem.W.keepIn K (.ref f14) = true)
    {oc15 kV15 dc15 pm15 cd15 ct15 : Value} {od15 an15 : Option Addr} {sl15 : Array (Option Value)} {f15 : Addr}
    (a15 : PySem.W.nsIn K mainGlobals "law" = some (some (.ref f15))) (l15 : K.lookup f15 = some ⟨oc15, od15, .func (PySem.W.fnOf "law" "law" (defArgs (topS 15)) (defBody (topS 15)) (defScope (topS 15)) .none kV15 dc15 pm15 an15 cd15 ct15), sl15⟩) (c15 : PySem.W.codeIn K cd15 "law" = true) (k15 : PySem.W.keepIn K (.ref f15) = true)
    (z_len : PySem.W.nsIn K mainGlobals "len" = some none)
    (z_int : PySem.W.nsIn K mainGlobals "int" = some none)
    (z_str : PySem.W.nsIn K mainGlobals "str" = some none)
    (z_bool : PySem.W.nsIn K mainGlobals "bool" = some none)
    (z_list : PySem.W.nsIn K mainGlobals "list" = some none)
    (z_tuple : PySem.W.nsIn K mainGlobals "tuple" = some none)
    (z_range : PySem.W.nsIn K mainGlobals "range" = some none)
    (z_sorted : PySem.W.nsIn K mainGlobals "sorted" = some none)
    (z_isinstance : PySem.W.nsIn K mainGlobals "isinstance" = some none)
    {t_LETTERS : Tok} (x_LETTERS : PySem.W.nsIn K mainGlobals "LETTERS" = some (some (.str "abcdefghijklmnopqrstuvwxyz" t_LETTERS)))
    {t_DIGITS : Tok} (x_DIGITS : PySem.W.nsIn K mainGlobals "DIGITS" = some (some (.str "0123456789" t_DIGITS)))
    : ∃ fd : FuncData, (∀ (s : Shared) (v : Value), BindsTo s fd ⟨[v], []⟩ [("_law_script", v)]) ∧ ∀ base : Heap, K.In base → base.Ns mainGlobals mg → FnOk l.prog w K mg base CX0 4 fa fd ["_law_script"] (sp_law K) := by
  have e := hfa.symm.trans (PySem.W.mg_of X G a15)
  cases e
  let A : Nat → Addr := fun i => match i with
    | 3 => f3
    | 4 => f4
    | 5 => f5
    | 7 => f7
    | 8 => f8
    | 9 => f9
    | 10 => f10
    | 11 => f11
    | 12 => f12
    | 13 => f13
    | 14 => f14
    | 15 => fa
    | _ => 0
  let D : Nat → FuncData := fun i => match i with
    | 3 => PySem.W.fnOf "is_name" "is_name" (defArgs (topS 3)) (defBody (topS 3)) (defScope (topS 3)) .none kV3 dc3 pm3 an3 cd3 ct3
    | 4 => PySem.W.fnOf "is_full_name" "is_full_name" (defArgs (topS 4)) (defBody (topS 4)) (defScope (topS 4)) .none kV4 dc4 pm4 an4 cd4 ct4
    | 5 => PySem.W.fnOf "merge_names" "merge_names" (defArgs (topS 5)) (defBody (topS 5)) (defScope (topS 5)) .none kV5 dc5 pm5 an5 cd5 ct5
    | 7 => PySem.W.fnOf "_law_source" "_law_source" (defArgs (topS 7)) (defBody (topS 7)) (defScope (topS 7)) .none kV7 dc7 pm7 an7 cd7 ct7
    | 8 => PySem.W.fnOf "_law_draw" "_law_draw" (defArgs (topS 8)) (defBody (topS 8)) (defScope (topS 8)) .none kV8 dc8 pm8 an8 cd8 ct8
    | 9 => PySem.W.fnOf "_law_piece" "_law_piece" (defArgs (topS 9)) (defBody (topS 9)) (defScope (topS 9)) .none kV9 dc9 pm9 an9 cd9 ct9
    | 10 => PySem.W.fnOf "_law_is_name" "_law_is_name" (defArgs (topS 10)) (defBody (topS 10)) (defScope (topS 10)) .none kV10 dc10 pm10 an10 cd10 ct10
    | 11 => PySem.W.fnOf "_law_is_bool" "_law_is_bool" (defArgs (topS 11)) (defBody (topS 11)) (defScope (topS 11)) .none kV11 dc11 pm11 an11 cd11 ct11
    | 12 => PySem.W.fnOf "_law_names_right" "_law_names_right" (defArgs (topS 12)) (defBody (topS 12)) (defScope (topS 12)) .none kV12 dc12 pm12 an12 cd12 ct12
    | 13 => PySem.W.fnOf "_law_lists" "_law_lists" (defArgs (topS 13)) (defBody (topS 13)) (defScope (topS 13)) .none kV13 dc13 pm13 an13 cd13 ct13
    | 14 => PySem.W.fnOf "_law_merged" "_law_merged" (defArgs (topS 14)) (defBody (topS 14)) (defScope (topS 14)) .none kV14 dc14 pm14 an14 cd14 ct14
    | 15 => PySem.W.fnOf "law" "law" (defArgs (topS 15)) (defBody (topS 15)) (defScope (topS 15)) .none kV15 dc15 pm15 an15 cd15 ct15
    | _ => PySem.W.fnOf "law" "law" (defArgs (topS 15)) (defBody (topS 15)) (defScope (topS 15)) .none kV15 dc15 pm15 an15 cd15 ct15
  have T : Txt K mg A D := {
    F_is_name := fun_mk (st := topS 3) l3 c3 k3
    g_is_name := PySem.W.mg_of X G a3
    b_is_name := (fun_mk (st := topS 3) l3 c3 k3).binds (ps := ["text"]) fun _ _ _ _ _ _ us hl => match us, hl with | [_], _ => rfl
    F_is_full_name := fun_mk (st := topS 4) l4 c4 k4
    g_is_full_name := PySem.W.mg_of X G a4
    b_is_full_name := (fun_mk (st := topS 4) l4 c4 k4).binds (ps := ["text"]) fun _ _ _ _ _ _ us hl => match us, hl with | [_], _ => rfl
    F_merge_names := fun_mk (st := topS 5) l5 c5 k5
    g_merge_names := PySem.W.mg_of X G a5
    F__law_source := fun_mk (st := topS 7) l7 c7 k7
    g__law_source := PySem.W.mg_of X G a7
    b__law_source := (fun_mk (st := topS 7) l7 c7 k7).binds (ps := ["_law_script", "_law_k"]) fun _ _ _ _ _ _ us hl => match us, hl with | [_, _], _ => rfl
    F__law_draw := fun_mk (st := topS 8) l8 c8 k8
    g__law_draw := PySem.W.mg_of X G a8
    b__law_draw := (fun_mk (st := topS 8) l8 c8 k8).binds (ps := ["_law_source_here", "_law_limit"]) fun _ _ _ _ _ _ us hl => match us, hl with | [_, _], _ => rfl
    F__law_piece := fun_mk (st := topS 9) l9 c9 k9
    g__law_piece := PySem.W.mg_of X G a9
    b__law_piece := (fun_mk (st := topS 9) l9 c9 k9).binds (ps := ["_law_source_here"]) fun _ _ _ _ _ _ us hl => match us, hl with | [_], _ => rfl
    F__law_is_name := fun_mk (st := topS 10) l10 c10 k10
    g__law_is_name := PySem.W.mg_of X G a10
    b__law_is_name := (fun_mk (st := topS 10) l10 c10 k10).binds (ps := ["_law_text"]) fun _ _ _ _ _ _ us hl => match us, hl with | [_], _ => rfl
    F__law_is_bool := fun_mk (st := topS 11) l11 c11 k11
    g__law_is_bool := PySem.W.mg_of X G a11
    b__law_is_bool := (fun_mk (st := topS 11) l11 c11 k11).binds (ps := ["_law_actual", "_law_expected"]) fun _ _ _ _ _ _ us hl => match us, hl with | [_, _], _ => rfl
    F__law_names_right := fun_mk (st := topS 12) l12 c12 k12
    g__law_names_right := PySem.W.mg_of X G a12
    b__law_names_right := (fun_mk (st := topS 12) l12 c12 k12).binds (ps := ["_law_source_here"]) fun _ _ _ _ _ _ us hl => match us, hl with | [_], _ => rfl
    F__law_lists := fun_mk (st := topS 13) l13 c13 k13
    g__law_lists := PySem.W.mg_of X G a13
    b__law_lists := (fun_mk (st := topS 13) l13 c13 k13).binds (ps := ["_law_source_here"]) fun _ _ _ _ _ _ us hl => match us, hl with | [_], _ => rfl
    F__law_merged := fun_mk (st := topS 14) l14 c14 k14
    g__law_merged := PySem.W.mg_of X G a14
    b__law_merged := (fun_mk (st := topS 14) l14 c14 k14).binds (ps := ["_law_lists_here", "_law_passed"]) fun _ _ _ _ _ _ us hl => match us, hl with | [_, _], _ => rfl
    F_law := fun_mk (st := topS 15) l15 c15 k15
    g_law := PySem.W.mg_of X G a15
    b_law := (fun_mk (st := topS 15) l15 c15 k15).binds (ps := ["_law_script"]) fun _ _ _ _ _ _ us hl => match us, hl with | [_], _ => rfl
    z_len := PySem.W.mg_none_of X G z_len
    z_int := PySem.W.mg_none_of X G z_int
    z_str := PySem.W.mg_none_of X G z_str
    z_bool := PySem.W.mg_none_of X G z_bool
    z_list := PySem.W.mg_none_of X G z_list
    z_tuple := PySem.W.mg_none_of X G z_tuple
    z_range := PySem.W.mg_none_of X G z_range
    z_sorted := PySem.W.mg_none_of X G z_sorted
    z_isinstance := PySem.W.mg_none_of X G z_isinstance
    c_LETTERS := ⟨t_LETTERS, PySem.W.mg_of X G x_LETTERS⟩
    c_DIGITS := ⟨t_DIGITS, PySem.W.mg_of X G x_DIGITS⟩
  }
  exact ⟨D 15, fun s v => .of_eq rfl, fun base _ _ => ok_law T⟩
theorem walk {l : PySem.W.OpenLaw} {q : Program} {loose : List Str} {XP : (Str → Option Value) → Heap → Prop} {YP : World → Heap → Prop} {d : DefRec} {K : Params → PySem.W.Frag} (hn : l.most = some 63) (hdf : d.params.defaults = [])
    (hY : ∀ (w : World) (h : Heap), YP w h → (K w.params).In h)
    (F : ∀ (w : World) (mg : Str → Option Value) (fa : Addr) (h : Heap), (K w.params).In h → h.Ns mainGlobals mg → mg d.name = some (.ref fa) →
      ∃ fd : FuncData, (∀ (s : Shared) (u : Value), BindsTo s fd ⟨[u], []⟩ [("_law_script", u)]) ∧ ∀ base : Heap, (K w.params).In base → base.Ns mainGlobals mg → FnOk l.prog w (K w.params) mg base CX0 4 fa fd ["_law_script"] (sp_law (K w.params))) :
    PySem.W.WalkO q loose XP YP l.row.toRowW d [] (fun f vs => PySem.call f vs) :=
  L2.walk_of (n := 63) (k := 4) (x := "_law_script") (CX := fun _ => CX0) (sp := fun w => sp_law (K w.params)) hn (by decide) hdf ⟨rfl, by decide, by decide⟩ hY F (fun _ H a ns hl hO hS => ⟨a, ns, rfl, hS, hl, fun _ => rfl⟩) fun _ _ _ _ _ z => z
end Sl
open PySem PySem.W PyProof.Rows
set_option maxRecDepth 100000 in
set_option maxHeartbeats 0 in
theorem PySem.Challenge.cw_shadowlinks_k00_names_and_merging_holds : PySem.Challenge.rw_shadowlinks_k00_names_and_merging.Holds := by
  w_on; o_law; k_head; (case hw => w_witness2)
  k_fill
  refine Sl.walk (l := PySem.Challenge.rw_shadowlinks_k00_names_and_merging) rfl rfl (fun w h Y => PySem.W.kIn_of Y) ?F
  case F =>
    intro w mg fa h KX G hmg
    refine' Sl.all_mk KX G hmg ?a3 ?l3 ?c3 ?k3 ?a4 ?l4 ?c4 ?k4 ?a5 ?l5 ?c5 ?k5 ?a7 ?l7 ?c7 ?k7 ?a8 ?l8 ?c8 ?k8 ?a9 ?l9 ?c9 ?k9 ?a10 ?l10 ?c10 ?k10 ?a11 ?l11 ?c11 ?k11 ?a12 ?l12 ?c12 ?k12 ?a13 ?l13 ?c13 ?k13 ?a14 ?l14 ?c14 ?k14 ?a15 ?l15 ?c15 ?k15 ?z_len ?z_int ?z_str ?z_bool ?z_list ?z_tuple ?z_range ?z_sorted ?z_isinstance ?x_LETTERS ?x_DIGITS
    (case a3 => k_is)
    (case l3 => k_is)
    (case c3 => k_is)
    (case k3 => k_is)
    (case a4 => k_is)
    (case l4 => k_is)
    (case c4 => k_is)
    (case k4 => k_is)
    (case a5 => k_is)
    (case l5 => k_is)
    (case c5 => k_is)
    (case k5 => k_is)
    (case a7 => k_is)
    (case l7 => k_is)
    (case c7 => k_is)
    (case k7 => k_is)
    (case a8 => k_is)
    (case l8 => k_is)
    (case c8 => k_is)
    (case k8 => k_is)
    (case a9 => k_is)
    (case l9 => k_is)
    (case c9 => k_is)
    (case k9 => k_is)
    (case a10 => k_is)
    (case l10 => k_is)
    (case c10 => k_is)
    (case k10 => k_is)
    (case a11 => k_is)
    (case l11 => k_is)
    (case c11 => k_is)
    (case k11 => k_is)
    (case a12 => k_is)
    (case l12 => k_is)
    (case c12 => k_is)
    (case k12 => k_is)
    (case a13 => k_is)
    (case l13 => k_is)
    (case c13 => k_is)
    (case k13 => k_is)
    (case a14 => k_is)
    (case l14 => k_is)
    (case c14 => k_is)
    (case k14 => k_is)
    (case a15 => k_is)
    (case l15 => k_is)
    (case c15 => k_is)
    (case k15 => k_is)
    (case z_len => k_is)
    (case z_int => k_is)
    (case z_str => k_is)
    (case z_bool => k_is)
    (case z_list => k_is)
    (case z_tuple => k_is)
    (case z_range => k_is)
    (case z_sorted => k_is)
    (case z_isinstance => k_is)
    (case x_LETTERS => k_is)
    (case x_DIGITS => k_is)
