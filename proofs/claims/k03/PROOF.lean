import PyProof.Rows.All
import Wide.All
import OpenK.AllK
import Wide.FinOn
import HandS.ForMost
import HandS.Walk
import HandS.IsInst
import HandS.Wide
import HandS.Gcd
import HandS.Star
import HandS.Flow
import HandS.EndBits
import HandS.Conv
import HandS.Deep
import HandS.TupAny
import HandS.Codes
import KE.SortData
import KE.SortKeyHeap
import KE.DataCmp
import KE.DataEq
import HandS.Style
import HandS.ExcInit
import HandS.ClsMeth
import HandS.ExcField
import HandS.ExcIs
import HandS.Defaults
import HandS.Iter
import HandS.FStr
import HandS.Text
import HandS.StrMore
import KE.IntTextLaws
import HandS.MakeKwOnly
import HandS.CallSlots
import HandS.WordsExc
import HandS.ExcOwn
import HandS.TryOnly
import KE.KExcIs
import KE.GoesEnumKw
import PyProof.FString3
import PyProof.Rows.StrIntSpec
import PySem.Challenge.RW_shadowlinks_k03_numbers_and_names_in_tex
set_option Elab.async false
set_option linter.all false
set_option maxRecDepth 100000
set_option maxHeartbeats 4000000
namespace Sl
open PySem PySem.Spec PyProof.Rows L2

/-- a tuple, as it stands or held -/
def isTup : HO → Bool
  | .tup _ => true
  | .frz _ (.tup _) => true
  | _ => false
/-- a new address -/
structure Fr (H : Hp) (p : Addr) : Prop where
  eq : H p = none
/-- all stands but what is at A (tuples stand anyway) -/
def Kp (A : List Addr) (H H' : Hp) : Prop := ∀ a o, H a = some o → (a ∉ A ∨ isTup o = true) → H' a = some o
section
variable {A B : List Addr} {H H' H1 H2 : Hp} {p q a : Addr} {o o' u : HO}
theorem Kp.refl : Kp A H H := fun _ _ h _ => h
theorem Kp.trans (x : Kp A H H1) (y : Kp A H1 H2) : Kp A H H2 := fun a o h k => y a o (x a o h k) k
theorem Kp.sub (x : Kp A H H') (h : ∀ a ∈ A, a ∈ B) : Kp B H H' := fun a o e k => x a o e (k.imp (fun n m => n (h a m)) id)
theorem Kp.nil (x : Kp [] H H') : Kp B H H' := x.sub fun _ h => nomatch h
theorem Kp.of_same (x : Same H H') : Kp A H H' := fun a o h _ => x a o h
theorem Kp.same (x : Kp [] H H') : Same H H' := fun a o h => x a o h (.inl (by simp))
theorem Kp.new (h : H p = none) : Kp A H (upd H p o) := fun a u e _ => by
  rw [upd_ne (ne_of_none e h)]; exact e
theorem Kp.own (h : H p = some o) (t : isTup o = false) (m : p ∈ A) : Kp A H (upd H p o') := fun a u e k => by
  by_cases z : a = p
  · subst z
    rw [h] at e
    cases e
    rcases k with k | k
    · exact absurd m k
    · rw [t] at k; cases k
  · rw [upd_ne z]; exact e
/-- a new one, then changed: nothing that stood is touched -/
theorem Kp.back (h : H p = none) (x : Kp (p :: A) H H') : Kp A H H' := fun a o e k => x a o e (k.imp (fun n => by
  simp only [List.mem_cons, not_or]
  exact ⟨ne_of_none e h, n⟩) id)
/-- a change at what was new -/
theorem Kp.put (x : Kp A H H1) (h : H p = none) : Kp A H (upd H1 p o) := fun a u e k => by
  rw [upd_ne (ne_of_none e h)]; exact x a u e k
theorem Kp.none (x : Kp A H H') (n : a ∉ A) (h : H' a = none) : H a = none := by
  cases e : H a with
  | none => rfl
  | some o => have := x _ _ e (.inl n); rw [h] at this; cases this
theorem Kp.get (x : Kp A H H') (h : H a = some o) (k : a ∉ A ∨ isTup o = true) : H' a = some o := x a o h k
theorem Kp.rd (x : Kp A H H') (h : Rd H a o) (n : a ∉ A) : Rd H' a o := by
  rcases h with h | ⟨z, h⟩
  · exact .inl (x _ _ h (.inl n))
  · exact .inr ⟨z, x _ _ h (.inl n)⟩
theorem Kp.sqT {K : PySem.W.Frag} {xs : List V} (x : Kp A H H') (h : SqT K H a xs) : SqT K H' a xs := by
  rcases h with (h | ⟨z, h⟩) | h
  · exact .inl (.inl (x _ _ h (.inr rfl)))
  · exact .inl (.inr ⟨z, x _ _ h (.inr rfl)⟩)
  · exact .inr h
theorem Kp.sqL {K : PySem.W.Frag} {xs : List V} (x : Kp A H H') (n : a ∉ A) (h : SqL K H a xs) : SqL K H' a xs := by
  rcases h with h | h
  · exact .inl (x.rd h n)
  · exact .inr h
theorem Fr.ne (f : Fr H q) (h : H p = some o) : p ≠ q := ne_of_none h f.eq
theorem ne_kind (h : H p = some o) (h' : H q = some u) (d : o ≠ u) : p ≠ q := ne_of h h' d
end

/-! ### data that stands -/
section
variable (A : List Addr) (K : PySem.W.Frag) (H : Hp)
mutual
inductive Dv : V → PyData → Prop
  | non : Dv .non .none
  | bl (b : Bool) : Dv (.bl b) (.bool b)
  | int (i : Int) : Dv (.int i) (.int i)
  | str (x : Str) : Dv (.str x) (.str x)
  | lst {a : Addr} {xs : List V} {ds : List PyData} : Rd H a (.lst xs) → a ∉ A → DvAll xs ds → Dv (.ref a) (.list ds)
  | tup {a : Addr} {xs : List V} {ds : List PyData} : SqT K H a xs → DvAll xs ds → Dv (.ref a) (.tuple ds)
inductive DvAll : List V → List PyData → Prop
  | nil : DvAll [] []
  | cons {v : V} {vs : List V} {d : PyData} {ds : List PyData} : Dv v d → DvAll vs ds → DvAll (v :: vs) (d :: ds)
end
end
section
variable {A B : List Addr} {K : PySem.W.Frag} {H H' : Hp} {p q a : Addr} {o o' u : HO} {v : V} {d : PyData}
mutual
theorem Dv.kp (k : Kp A H H') : ∀ {v : V} {d : PyData}, Dv A K H v d → Dv A K H' v d
  | _, _, .non => .non
  | _, _, .bl b => .bl b
  | _, _, .int i => .int i
  | _, _, .str x => .str x
  | _, _, .lst h n t => .lst (k.rd h n) n (DvAll.kp k t)
  | _, _, .tup h t => .tup (k.sqT h) (DvAll.kp k t)
theorem DvAll.kp (k : Kp A H H') : ∀ {vs : List V} {ds : List PyData}, DvAll A K H vs ds → DvAll A K H' vs ds
  | _, _, .nil => .nil
  | _, _, .cons h t => .cons (Dv.kp k h) (DvAll.kp k t)
end
mutual
theorem Dv.sub (k : ∀ a ∈ B, a ∈ A) : ∀ {v : V} {d : PyData}, Dv A K H v d → Dv B K H v d
  | _, _, .non => .non
  | _, _, .bl b => .bl b
  | _, _, .int i => .int i
  | _, _, .str x => .str x
  | _, _, .lst h n t => .lst h (fun m => n (k _ m)) (DvAll.sub k t)
  | _, _, .tup h t => .tup h (DvAll.sub k t)
theorem DvAll.sub (k : ∀ a ∈ B, a ∈ A) : ∀ {vs : List V} {ds : List PyData}, DvAll A K H vs ds → DvAll B K H vs ds
  | _, _, .nil => .nil
  | _, _, .cons h t => .cons (Dv.sub k h) (DvAll.sub k t)
end
theorem rd_ne (h : H p = none) (r : Rd H a o) : a ≠ p := by
  rcases r with r | ⟨z, r⟩
  · exact ne_of_none r h
  · exact ne_of_none r h
mutual
/-- a new address is none of the data's -/
theorem Dv.more (h : H p = none) : ∀ {v : V} {d : PyData}, Dv A K H v d → Dv (p :: A) K H v d
  | _, _, .non => .non
  | _, _, .bl b => .bl b
  | _, _, .int i => .int i
  | _, _, .str x => .str x
  | _, _, .lst r n t => .lst r (by simp only [List.mem_cons, not_or]; exact ⟨rd_ne h r, n⟩) (DvAll.more h t)
  | _, _, .tup r t => .tup r (DvAll.more h t)
theorem DvAll.more (h : H p = none) : ∀ {vs : List V} {ds : List PyData}, DvAll A K H vs ds → DvAll (p :: A) K H vs ds
  | _, _, .nil => .nil
  | _, _, .cons r t => .cons (Dv.more h r) (DvAll.more h t)
end
mutual
def flatT : PyData → Bool
  | .list _ => false
  | .dict _ => false
  | .tuple ds => flatTs ds
  | _ => true
def flatTs : List PyData → Bool
  | [] => true
  | d :: ds => flatT d && flatTs ds
end
mutual
theorem Dv.any : ∀ {v : V} {d : PyData}, flatT d = true → Dv A K H v d → Dv B K H v d
  | _, _, _, .non => .non
  | _, _, _, .bl b => .bl b
  | _, _, _, .int i => .int i
  | _, _, _, .str x => .str x
  | _, _, e, .lst r n t => by simp [flatT] at e
  | _, _, e, .tup r t => .tup r (DvAll.any (by simpa [flatT] using e) t)
theorem DvAll.any : ∀ {vs : List V} {ds : List PyData}, flatTs ds = true → DvAll A K H vs ds → DvAll B K H vs ds
  | _, _, _, .nil => .nil
  | _, _, e, .cons r t => by
    simp only [flatTs, Bool.and_eq_true] at e
    exact .cons (Dv.any e.1 r) (DvAll.any e.2 t)
end
theorem flatTs_map {α : Type} {f : α → PyData} (h : ∀ x, flatT (f x) = true) : ∀ xs : List α, flatTs (xs.map f) = true
  | [] => rfl
  | x :: xs => by rw [List.map_cons, flatTs, h x, flatTs_map h xs]; rfl
mutual
theorem Dv.dp : ∀ {v : V} {d : PyData}, Dv A K H v d → Dp K H v d
  | _, _, .non => .non
  | _, _, .bl b => .bl b
  | _, _, .int i => .int i
  | _, _, .str x => .str x
  | _, _, .lst h n t => .lst (.inl h) (DvAll.dp t)
  | _, _, .tup h t => .tup h (DvAll.dp t)
theorem DvAll.dp : ∀ {vs : List V} {ds : List PyData}, DvAll A K H vs ds → DpAll K H vs ds
  | _, _, .nil => .nil
  | _, _, .cons h t => .cons (Dv.dp h) (DvAll.dp t)
end
theorem DvAll.length : ∀ {vs : List V} {ds : List PyData}, DvAll A K H vs ds → vs.length = ds.length
  | _, _, .nil => rfl
  | _, _, .cons _ t => congrArg Nat.succ (DvAll.length t)
theorem DvAll.at : ∀ {vs : List V} {ds : List PyData} {i : Nat} {v : V}, DvAll A K H vs ds → vs[i]? = some v → ∃ d, ds[i]? = some d ∧ Dv A K H v d
  | _, _, i, v, .nil, h => by simp at h
  | _, _, 0, v, .cons h _, e => by cases e; exact ⟨_, rfl, h⟩
  | _, _, i + 1, v, .cons _ t, e => DvAll.at (i := i) t e
theorem DvAll.at' : ∀ {vs : List V} {ds : List PyData} {i : Nat} {d : PyData}, DvAll A K H vs ds → ds[i]? = some d → ∃ v, vs[i]? = some v ∧ Dv A K H v d
  | _, _, i, v, .nil, h => by simp at h
  | _, _, 0, v, .cons h _, e => by cases e; exact ⟨_, rfl, h⟩
  | _, _, i + 1, v, .cons _ t, e => DvAll.at' (i := i) t e
theorem DvAll.app : ∀ {vs ws : List V} {ds es : List PyData}, DvAll A K H vs ds → DvAll A K H ws es → DvAll A K H (vs ++ ws) (ds ++ es)
  | _, _, _, _, .nil, h => h
  | _, _, _, _, .cons h t, r => .cons h (DvAll.app t r)
theorem DvAll.one (h : Dv A K H v d) : DvAll A K H [v] [d] := .cons h .nil
theorem DvAll.snoc {vs : List V} {ds : List PyData} (t : DvAll A K H vs ds) (h : Dv A K H v d) : DvAll A K H (vs ++ [v]) (ds ++ [d]) := t.app (.one h)
theorem DvAll.strs : ∀ {vs : List V} {ss : List Str}, DvAll A K H vs (ss.map .str) → vs = ss.map V.str
  | _, [], .nil => rfl
  | _, s :: ss, .cons h t => by
    cases h
    rw [List.map_cons, DvAll.strs t]
theorem DvAll.ints : ∀ {vs : List V} {ss : List Int}, DvAll A K H vs (ss.map .int) → vs = ss.map V.int
  | _, [], .nil => rfl
  | _, s :: ss, .cons h t => by
    cases h
    rw [List.map_cons, DvAll.ints t]
theorem dv_strs : ∀ (ss : List Str), DvAll A K H (ss.map V.str) (ss.map .str)
  | [] => .nil
  | s :: ss => .cons (.str s) (dv_strs ss)
theorem dv_ints : ∀ (ss : List Int), DvAll A K H (ss.map V.int) (ss.map .int)
  | [] => .nil
  | s :: ss => .cons (.int s) (dv_ints ss)
theorem Dv.tup_inv {ds : List PyData} (h : Dv A K H v (.tuple ds)) : ∃ a xs, v = .ref a ∧ SqT K H a xs ∧ DvAll A K H xs ds := by
  cases h with
  | tup r t => exact ⟨_, _, rfl, r, t⟩
theorem Dv.lst_inv {ds : List PyData} (h : Dv A K H v (.list ds)) : ∃ a xs, v = .ref a ∧ Rd H a (.lst xs) ∧ a ∉ A ∧ DvAll A K H xs ds := by
  cases h with
  | lst r n t => exact ⟨_, _, rfl, r, n, t⟩
theorem Dv.str_inv {s : Str} (h : Dv A K H v (.str s)) : v = .str s := by cases h; rfl
theorem Dv.int_inv {s : Int} (h : Dv A K H v (.int s)) : v = .int s := by cases h; rfl
theorem Dv.bl_inv {s : Bool} (h : Dv A K H v (.bool s)) : v = .bl s := by cases h; rfl
theorem Dv.non_inv (h : Dv A K H v .none) : v = .non := by cases h; rfl
end

theorem sz {n : Nat} (h : n ≤ 100000) : n ≤ sizeLine := Nat.le_trans h (by decide)
theorem szl {n : Nat} (h : n < 100000) : n < sizeLine := Nat.lt_of_lt_of_le h (by decide)
/-! ### the source of draws -/
def Src (H : Hp) (a : Addr) : Prop := ∃ n c : Int, H a = some (.lst [.int n, .int c])
theorem Src.kp {A : List Addr} {H H' : Hp} {a : Addr} (k : Kp A H H') (n : a ∉ A) (h : Src H a) : Src H' a := by
  obtain ⟨x, y, e⟩ := h
  exact ⟨x, y, k _ _ e (.inl n)⟩
end Sl
namespace Sl
open PySem PySem.Spec PyProof.Rows L2
section
variable {X : Cx} {CX : CXT} {k : Nat} {f : Addr} {sp : Sp} {E : XK} {x : Str} {e : Expr} {es : List Expr} {t : TA} {p pos : Pos}
/-- f(e, ..), f of any binding, by a positional promise -/
theorem pe_callF (F : FnR X.prog X.w X.K X.mg X.base CX k f sp) (hr : Room k X.A) (hk : PySem.W.keepIn X.K (.ref f) = true) (hg : Gl X x) (hm : X.mg x = some (.ref f)) (hx : Passes CX X E) (ha : PA X (e :: es) t) (hdb : (x == ("__debug__" : Str)) = false := by decide)
    (he : starEach (e :: es) X.env = (false, eval e X.env) :: starEach es X.env := by rfl) (hpl : (backTo pos (starEach es X.env)).any (·.1) = false := by rfl) :
    PE X (.Call (.Name x p) (e :: es) [] pos) (fun σ H Q => t σ H fun vs H1 => sp vs H1 Q E) := by
  refine ⟨fun pins s σ H Q I h => ?_⟩
  refine wpAny_Call_Name_kw (ld_glob I hg hm ?_ hdb)
  refine PySem.W.callWith_K (h₀ := X.base) I.ok.mod.kin hk (thn (ha.run pos pins s σ H _ I h) fun us s1 ⟨vs, H1, I1, r, q⟩ => ⟨I1.kIn, ?_⟩) he hpl
  exact wpAny_call (run_fnR F hr hx I1 r q)
/-- f(), f of any binding -/
theorem pe_callF0 (F : FnR X.prog X.w X.K X.mg X.base CX k f sp) (hr : Room k X.A) (hg : Gl X x) (hm : X.mg x = some (.ref f)) (hk : PySem.W.keepIn X.K (.ref f) = true) (hx : Passes CX X E)
    (hdb : (x == ("__debug__" : Str)) = false := by decide) : PE X (.Call (.Name x p) [] [] pos) (fun _ H Q => sp [] H Q E) := by
  refine ⟨fun pins s σ H Q I h => ?_⟩
  refine wpAny_Call_Name_kw (ld_glob I hg hm ?_ hdb)
  exact PySem.W.callWith_K0 I.kIn hk (wpAny_call (run_fnR F hr hx I .nil h))
/-- def f(.., *v): n written, the rest a new tuple -/
def star (n : Nat) (sp : Sp) : Sp := fun vs H Q E => ∃ ws rest, vs = ws ++ rest ∧ ws.length = n ∧ rest.length ≤ sizeLine ∧ ∀ p, H p = Option.none → sp (ws ++ [V.ref p]) (upd H p (.tup rest)) Q E
end
end Sl
namespace Sl
open PySem PySem.Spec PyProof.Rows L2
/-! ### two readings of one term -/
section
variable {X : Cx}
theorem pi_or {tg e : Expr} {w1 w2 : TI} (h1 : PI X tg e w1) (h2 : PI X tg e w2) : PI X tg e (fun σ H R => w1 σ H R ∨ w2 σ H R) :=
  ⟨fun pins s σ H R I h => h.elim (h1.run pins s σ H R I) (h2.run pins s σ H R I)⟩
theorem pe_or2 {e : Expr} {t1 t2 : TE} (h1 : PE X e t1) (h2 : PE X e t2) : PE X e (fun σ H Q => t1 σ H Q ∨ t2 σ H Q) :=
  ⟨fun pins s σ H R I h => h.elim (h1.run pins s σ H R I) (h2.run pins s σ H R I)⟩
theorem pt_or2 {e : Expr} {t1 t2 : TT} (h1 : PT X e t1) (h2 : PT X e t2) : PT X e (fun σ H Q => t1 σ H Q ∨ t2 σ H Q) :=
  ⟨fun pins s σ H R I h => h.elim (h1.run pins s σ H R I) (h2.run pins s σ H R I)⟩
theorem op_or2 {f : Value → Value → Sem Value} {r1 r2 : R2} (h1 : OpR X f r1) (h2 : OpR X f r2) : OpR X f (fun x y H Q => r1 x y H Q ∨ r2 x y H Q) :=
  fun pins s σ H x y v u Q I rx ry h => h.elim (h1 pins s σ H x y v u Q I rx ry) (h2 pins s σ H x y v u Q I rx ry)
theorem cr_or2 {f : Value} {r1 r2 : List V → Hp → VK → Prop} (h1 : CallR X f r1) (h2 : CallR X f r2) : CallR X f (fun xs H Q => r1 xs H Q ∨ r2 xs H Q) :=
  fun pins s σ H xs us Q I r h => h.elim (h1 pins s σ H xs us Q I r) (h2 pins s σ H xs us Q I r)
end
theorem nox_ex {X : Cx} {b : List Stmt} {R : TS → Prop} (h : ∃ t, PSs X.nox b t ∧ R t) : ∃ t, PSs X b t ∧ R t := by
  obtain ⟨t, h1, h2⟩ := h
  exact ⟨t, h1.nox, h2⟩
/-! ### texts in ascending order -/
def slt (a b : Str) : Prop := TL.tl a < TL.tl b
instance (a b : Str) : Decidable (slt a b) := inferInstanceAs (Decidable (TL.tl a < TL.tl b))
theorem ltCps_iff : ∀ a b : List Nat, ltCps a b = true ↔ a < b
  | [], [] => by simp [ltCps]
  | [], b :: bs => by simp [ltCps]
  | a :: as, [] => by simp [ltCps]
  | a :: as, b :: bs => by
    have ih := ltCps_iff as bs
    simp only [ltCps, List.cons_lt_cons_iff, Bool.or_eq_true, Bool.and_eq_true, decide_eq_true_eq, beq_iff_eq, ih]
theorem slt_trans {a b c : Str} (h : slt a b) (h' : slt b c) : slt a c := List.lt_trans h h'
theorem slt_irrefl (a : Str) : ¬ slt a a := List.lt_irrefl _
theorem slt_tri (a b : Str) : slt a b ∨ a = b ∨ slt b a := by
  by_cases h : slt a b
  · exact .inl h
  · by_cases h' : slt b a
    · exact .inr (.inr h')
    · exact .inr (.inl (TL.ext_tl (List.le_antisymm (List.not_lt.mp h') (List.not_lt.mp h))))
theorem slt_asymm {a b : Str} (h : slt a b) : ¬ slt b a := fun h' => slt_irrefl _ (slt_trans h h')
/-- strictly ascending -/
def Asc (l : List Str) : Prop := l.Pairwise slt
theorem rising_pw : ∀ (p : Str) (l : List Str), risingS p l = true → (p :: l).Pairwise (fun a b => ¬ slt b a)
  | p, [], _ => List.pairwise_singleton _ _
  | p, x :: r, h => by
    simp only [risingS, Bool.and_eq_true, Bool.not_eq_true'] at h
    have ih := rising_pw x r h.2
    have hpx : ¬ slt x p := fun z => by rw [(ltCps_iff _ _).mpr z] at h; exact Bool.noConfusion h.1
    refine List.pairwise_cons.mpr ⟨fun y hy => ?_, ih⟩
    rcases List.mem_cons.mp hy with e | e
    · subst e; exact hpx
    · intro z
      have hxy := (List.pairwise_cons.mp ih).1 y e
      rcases slt_tri x y with q | q | q
      · exact hpx (slt_trans q z)
      · subst q; exact hpx z
      · exact hxy q
theorem asc_of_sorted {l : List Str} (h : sortedS l = true) (nd : l.Nodup) : Asc l := by
  cases l with
  | nil => exact List.Pairwise.nil
  | cons x r =>
    have hp := rising_pw x r h
    refine List.Pairwise.imp₂ (fun a b h1 h2 => ?_) hp nd
    rcases slt_tri a b with q | q | q
    · exact q
    · exact absurd q h2
    · exact absurd q h1
theorem Asc.nodup {l : List Str} (h : Asc l) : l.Nodup := h.imp fun q e => by subst e; exact slt_irrefl _ q
/-- ascending lists with the same members are one -/
theorem Asc.ext : ∀ {l m : List Str}, Asc l → Asc m → (∀ x, x ∈ l ↔ x ∈ m) → l = m
  | [], [], _, _, _ => rfl
  | [], y :: m, _, _, h => absurd ((h y).mpr (List.mem_cons_self ..)) List.not_mem_nil
  | x :: l, [], _, _, h => absurd ((h x).mp (List.mem_cons_self ..)) List.not_mem_nil
  | x :: l, y :: m, hl, hm, h => by
    have h1 := List.pairwise_cons.mp hl
    have h2 := List.pairwise_cons.mp hm
    have e : x = y := by
      rcases List.mem_cons.mp ((h x).mp (List.mem_cons_self ..)) with e | e
      · exact e
      · rcases List.mem_cons.mp ((h y).mpr (List.mem_cons_self ..)) with e' | e'
        · exact e'.symm
        · exact absurd (slt_trans (h2.1 x e) (h1.1 y e')) (slt_irrefl _)
    subst e
    rw [Asc.ext h1.2 h2.2 fun z => ?_]
    constructor
    · intro hz
      rcases List.mem_cons.mp ((h z).mp (List.mem_cons_of_mem _ hz)) with e | e
      · subst e; exact absurd (h1.1 _ hz) (slt_irrefl _)
      · exact e
    · intro hz
      rcases List.mem_cons.mp ((h z).mpr (List.mem_cons_of_mem _ hz)) with e | e
      · subst e; exact absurd (h2.1 _ hz) (slt_irrefl _)
      · exact e
/-- a list or a tuple -/
def Sq (K : PySem.W.Frag) (H : Hp) (a : Addr) (xs : List V) : Prop := SqL K H a xs ∨ SqT K H a xs
/-- one for each -/
def All2 {α β : Type} (R : α → β → Prop) : List α → List β → Prop
  | [], [] => True
  | x :: xs, y :: ys => R x y ∧ All2 R xs ys
  | _, _ => False
theorem All2.at {α β : Type} {R : α → β → Prop} : ∀ {xs : List α} {ys : List β} {i : Nat} {x : α}, All2 R xs ys → xs[i]? = some x → ∃ y, ys[i]? = some y ∧ R x y
  | [], _, _, _, _, e => by simp at e
  | x :: xs, [], _, _, h, _ => False.elim h
  | x :: xs, y :: ys, 0, _, h, e => by cases e; exact ⟨y, rfl, h.1⟩
  | x :: xs, y :: ys, i + 1, _, h, e => All2.at (i := i) h.2 e
theorem All2.length {α β : Type} {R : α → β → Prop} : ∀ {xs : List α} {ys : List β}, All2 R xs ys → xs.length = ys.length
  | [], [], _ => rfl
  | [], _ :: _, h => False.elim h
  | _ :: _, [], h => False.elim h
  | x :: xs, y :: ys, h => congrArg Nat.succ (All2.length h.2)
theorem All2.imp {α β : Type} {R S : α → β → Prop} (k : ∀ x y, R x y → S x y) : ∀ {xs : List α} {ys : List β}, All2 R xs ys → All2 S xs ys
  | [], [], _ => trivial
  | [], _ :: _, h => False.elim h
  | _ :: _, [], h => False.elim h
  | x :: xs, y :: ys, h => ⟨k _ _ h.1, All2.imp k h.2⟩
theorem All2.snoc {α β : Type} {R : α → β → Prop} : ∀ {xs : List α} {ys : List β} {x : α} {y : β}, All2 R xs ys → R x y → All2 R (xs ++ [x]) (ys ++ [y])
  | [], [], _, _, _, h => ⟨h, trivial⟩
  | [], _ :: _, _, _, h, _ => False.elim h
  | _ :: _, [], _, _, h, _ => False.elim h
  | x :: xs, y :: ys, _, _, h, k => ⟨h.1, All2.snoc h.2 k⟩
end Sl
namespace Sl
open PySem PySem.Spec PyProof.Rows L2
/-! ### tests whose answer is told -/
/-- the answer is b, the heap stands -/
def An (t : TT) (σ : L2.St) (H : Hp) (b : Bool) : Prop := ∀ Q : Bool → Hp → Prop, Q b H → t σ H Q
/-- the value is v, the heap stands -/
def Vl (t : TE) (σ : L2.St) (H : Hp) (v : V) : Prop := ∀ Q : VK, Q v H → t σ H Q
section
variable {σ : L2.St} {H : Hp} {t u c : TT} {a b : Bool} {ta tb : TE} {x y z v : V} {D : Ends} {t1 t2 s2 : TS}
theorem an_and (h1 : An t σ H a) (h2 : a = true → An u σ H b) : An (tAnd t u) σ H (a && b) := fun Q q => by
  refine h1 _ ?_
  cases a with
  | true => exact h2 rfl Q q
  | false => exact q
theorem an_or (h1 : An t σ H a) (h2 : a = false → An u σ H b) : An (tOr t u) σ H (a || b) := fun Q q => by
  refine h1 _ ?_
  cases a with
  | true => exact q
  | false => exact h2 rfl Q q
theorem an_not (h1 : An t σ H a) : An (tNot t) σ H (!a) := fun Q q => h1 _ q
theorem an_cmp {r : R2} (h1 : Vl ta σ H x) (h2 : Vl tb σ H y) (hr : ∀ Q : VK, Q (.bl b) H → r x y H Q) : An (tTest (tOp r ta tb)) σ H b := fun Q q => h1 _ (h2 _ (hr _ ⟨b, rfl, q⟩))
theorem an_val (h1 : Vl ta σ H (.bl b)) : An (tB ta) σ H b := fun Q q => h1 _ ⟨b, rfl, q⟩
theorem an_test (h1 : Vl ta σ H (.bl b)) : An (tTest ta) σ H b := fun Q q => h1 _ ⟨b, rfl, q⟩
theorem vl_var {i : Nat} (h : σ[i]? = some (some v)) : Vl (tVar i) σ H v := fun Q q => ⟨v, h, q⟩
theorem vl_c : Vl (tC v) σ H v := fun Q q => q
theorem vl_op {r : R2} (h1 : Vl ta σ H x) (h2 : Vl tb σ H y) (hr : ∀ Q : VK, Q z H → r x y H Q) : Vl (tOp r ta tb) σ H z := fun Q q => h1 _ (h2 _ (hr _ q))
theorem vl_un {r : V → Hp → VK → Prop} (h1 : Vl ta σ H x) (hr : ∀ Q : VK, Q z H → r x H Q) : Vl (tUn r ta) σ H z := fun Q q => h1 _ (hr _ q)
theorem vl_cb1 {r : List V → Hp → VK → Prop} (h1 : Vl ta σ H x) (hr : ∀ Q : VK, Q z H → r [x] H Q) : Vl (tCB r (tCons ta tNil)) σ H z := fun Q q => h1 _ (hr _ q)
theorem vl_cb2 {r : List V → Hp → VK → Prop} (h1 : Vl ta σ H x) (h2 : Vl tb σ H y) (hr : ∀ Q : VK, Q z H → r [x, y] H Q) : Vl (tCB r (tCons ta (tCons tb tNil))) σ H z := fun Q q => h1 _ (h2 _ (hr _ q))
theorem vl_chain {r r' : R2} {tc : TE} {w : V} (h1 : Vl ta σ H x) (h2 : Vl tb σ H y) (h3 : a = true → Vl tc σ H w) (hr : ∀ Q : VK, Q (.bl a) H → r x y H Q) (hr' : a = true → ∀ Q : VK, Q (.bl b) H → r' y w H Q) : Vl (tChain r r' ta tb tc) σ H (.bl (a && b)) := fun Q q => by
  refine h1 _ (h2 _ (hr _ ⟨a, rfl, ?_⟩))
  cases a with
  | true => exact h3 rfl _ (hr' rfl _ q)
  | false => exact q
theorem vl_not (h1 : Vl ta σ H (.bl a)) : Vl (tNotV ta) σ H (.bl (!a)) := fun Q q => h1 _ ⟨a, rfl, q⟩
theorem vl_andV (h1 : Vl ta σ H (.bl a)) (h2 : a = true → Vl tb σ H (.bl b)) : Vl (tAndV ta tb) σ H (.bl (a && b)) := fun Q q => h1 _ ⟨a, rfl, by
  cases a with
  | true => exact h2 rfl _ q
  | false => exact q⟩
theorem vl_orV (h1 : Vl ta σ H (.bl a)) (h2 : a = false → Vl tb σ H (.bl b)) : Vl (tOrV ta tb) σ H (.bl (a || b)) := fun Q q => h1 _ ⟨a, rfl, by
  cases a with
  | true => exact q
  | false => exact h2 rfl _ q⟩
theorem if_an (h : An c σ H b) (k1 : b = true → t1 D σ H) (k2 : b = false → t2 D σ H) : tIfS c t1 t2 D σ H := by
  refine h _ ?_
  cases b with
  | true => exact k1 rfl
  | false => exact k2 rfl
theorem seq_if (h : An c σ H b) (k1 : b = true → t1 { D with nx := s2 D } σ H) (k2 : b = false → t2 { D with nx := s2 D } σ H) : tSeq (tIfS c t1 t2) s2 D σ H := if_an h k1 k2
theorem seq_if0 (h : An c σ H b) (k1 : b = true → t1 { D with nx := s2 D } σ H) (k2 : b = false → s2 D σ H) : tSeq (tIfS c t1 tNext) s2 D σ H := if_an h k1 k2
theorem seq_ifK0 (h : t σ H fun b H' => if b = true then t1 { D with nx := s2 D } σ H' else s2 D σ H') : tSeq (tIfS t t1 tNext) s2 D σ H := h
theorem seq_set {i : Nat} (h : Vl ta σ H v) (k : s2 D (σ.set i (some v)) H) : tSeq (tAsg ta (gName i)) s2 D σ H := h _ k
theorem seq_setK {i : Nat} (h : ta σ H fun v H' => s2 D (σ.set i (some v)) H') : tSeq (tAsg ta (gName i)) s2 D σ H := h
theorem setK {i : Nat} (h : ta σ H fun v H' => D.nx (σ.set i (some v)) H') : tAsg ta (gName i) D σ H := h
theorem seq_dropK (h : ta σ H fun _ H' => s2 D σ H') : tSeq (tDrop ta) s2 D σ H := h
theorem dropK' (h : ta σ H fun _ H' => D.nx σ H') : tDrop ta D σ H := h
theorem retK (h : ta σ H D.rt) : tRet ta D σ H := h
theorem if_anK (h : t σ H fun b H' => if b = true then t1 D σ H' else t2 D σ H') : tIfS t t1 t2 D σ H := h
theorem seq_ifK (h : t σ H fun b H' => if b = true then t1 { D with nx := s2 D } σ H' else t2 { D with nx := s2 D } σ H') : tSeq (tIfS t t1 t2) s2 D σ H := h
theorem seq_forK {wi : TI} {g : TG} {tb : TS} (h : tFor wi g tb { D with nx := s2 D } σ H) : tSeq (tFor wi g tb) s2 D σ H := h
theorem seq_whileK {c : TT} {tb : TS} (h : tWhile c tb { D with nx := s2 D } σ H) : tSeq (tWhile c tb) s2 D σ H := h
theorem seq_parK {i j : Nat} {ta : TA} (h : ta σ H fun vs H1 => ∃ v w, vs = [v, w] ∧ s2 D ((σ.set i (some v)).set j (some w)) H1) : tSeq (tPar i j ta) s2 D σ H := h
theorem parK {i j : Nat} {ta : TA} (h : ta σ H fun vs H1 => ∃ v w, vs = [v, w] ∧ D.nx ((σ.set i (some v)).set j (some w)) H1) : tPar i j ta D σ H := h
theorem gnK {i : Nat} {v : V} {Q : L2.St → Hp → Prop} (h : Q (σ.set i (some v)) H) : gName i v σ H Q := h
theorem yesK {Q : Bool → Hp → Prop} (h : Q true H) : tYes σ H Q := h
theorem nextK (h : D.nx σ H) : tNext D σ H := h
theorem ret_vl (h : Vl ta σ H v) (k : D.rt v H) : tRet ta D σ H := h _ k
theorem An.to (h : An t σ H a) (e : a = b) : An t σ H b := e ▸ h
theorem Vl.to (h : Vl ta σ H x) (e : x = y) : Vl ta σ H y := e ▸ h
end
/-- two ways that meet -/
theorem cutK {t u : TS} {D : Ends} {σ : L2.St} {H : Hp} (Mid : L2.St → Hp → Prop) (h1 : t { D with nx := Mid } σ H) (h2 : ∀ σ' H', Mid σ' H' → u D σ' H') : C8.tCut t u D σ H := ⟨Mid, h1, h2⟩
theorem an_use {c : TT} {σ : L2.St} {H : Hp} {b : Bool} {Q : Bool → Hp → Prop} (h : An c σ H b) (q : Q b H) : c σ H Q := h Q q
/-- a for and what stands behind it -/
theorem for_seq {J : It} {n : Nat} {G : Hp → Prop} {Y : Nat → Hp → V → Hp → Prop} (w : Walk J n G Y) {g : TG} {tb s2 : TS} {D : Ends} {σ : L2.St} {H : Hp} (Pv : Nat → L2.St → Hp → Prop) (h0 : Pv 0 σ H) (hG : ∀ i σ H, i ≤ n → Pv i σ H → G H)
    (hs : ∀ i x σ H H', i < n → Pv i σ H → Y i H x H' → g x σ H' fun σ2 H2 => tb { D with nx := Pv (i + 1), ct := Pv (i + 1), bk := s2 D } σ2 H2) (hd : ∀ σ H, Pv n σ H → s2 D σ H) :
    ∃ W : Nat → Nat → L2.St → Hp → Prop, (∃ m, W 0 m σ H) ∧ ∀ i m σ H, W i m σ H →
      (J.stop i H ∧ (Ends.mk (s2 D) D.rt D.bk D.ct).nx σ H) ∨ (J.go i H ∧ ∃ N : L2.St → Hp → Prop, (∀ σ' H', N σ' H' → ∃ m', m' < m ∧ W (i + 1) m' σ' H') ∧ ∀ x H', J.yld i H x H' → g x σ H' fun σ2 H2 => tb { (Ends.mk (s2 D) D.rt D.bk D.ct) with nx := N, ct := N, bk := (Ends.mk (s2 D) D.rt D.bk D.ct).nx } σ2 H2) :=
  for_it (D := Ends.mk (s2 D) D.rt D.bk D.ct) w Pv h0 hG hs hd
/-- one sign of a text -/
theorem sign_at {z : Str} {r : Int} (h0 : 0 ≤ r) (h1 : r < z.length) : ∃ c, atI z.cps.toList r = some c ∧ c ∈ TL.tl z := by
  obtain ⟨n, rfl⟩ := Int.eq_ofNat_of_zero_le h0
  have h : n < z.cps.toList.length := by
    have e : z.length = z.cps.toList.length := TL.len_tl z
    omega
  exact ⟨z.cps.toList[n], atI_nat (by simp), List.getElem_mem h⟩
end Sl
namespace Sl
open PySem PySem.Spec PyProof.Rows L2
/-! ### data of written depth -/
/-- all signs are signs -/
def okS (s : Str) : Prop := ∀ c ∈ TL.tl s, c < 1114112
theorem okS.ok {s : Str} (h : okS s) : PyData.canLay0 (.str s) = true := by
  show PyData.strOk s = true
  unfold PyData.strOk
  rw [Array.all_eq_true']
  intro c hc
  simpa using h c (Array.mem_toList_iff.mpr hc)
theorem lay_map {α : Type} {f : α → PyData} : ∀ {xs : List α}, (∀ x ∈ xs, (f x).canLay0 = true) → PyData.canLayAll0 (xs.map f) = true
  | [], _ => rfl
  | x :: xs, h => by
    rw [List.map_cons, PyData.canLayAll0, h x (List.mem_cons_self ..), lay_map fun y hy => h y (List.mem_cons_of_mem _ hy)]; rfl
theorem depth_map {α : Type} {f : α → PyData} {k : Nat} : ∀ {xs : List α}, (∀ x ∈ xs, (f x).depth ≤ k) → PyData.depthAll (xs.map f) ≤ k
  | [], _ => Nat.zero_le _
  | x :: xs, h => by
    rw [List.map_cons, PyData.depthAll]
    have h1 := h x (List.mem_cons_self ..)
    have h2 := depth_map (k := k) (xs := xs) fun y hy => h y (List.mem_cons_of_mem _ hy)
    omega
theorem shaped_of {d : PyData} (h : d.canLay0 = true) (h' : d.depth ≤ 64) : SeqAt.shaped d = true := by
  unfold SeqAt.shaped
  rw [h, decide_eq_true h']; rfl
theorem inV_strs {s : Str} : ∀ {ys : List Str}, inV (.str s) (ys.map V.str) = decide (s ∈ ys)
  | [] => rfl
  | y :: ys => by
    have ih := inV_strs (s := s) (ys := ys)
    unfold inV at ih ⊢
    rw [List.map_cons, List.any_cons, ih]
    show (y == s || decide (s ∈ ys)) = decide (s ∈ y :: ys)
    by_cases e : s = y
    · subst e; simp
    · have : (y == s) = false := by simp [Ne.symm e]
      rw [this]; simp [e]
theorem flat_strs (ys : List Str) : (ys.map V.str).all flatV = true := by
  rw [List.all_eq_true]
  intro v hv
  obtain ⟨s, _, rfl⟩ := List.mem_map.mp hv
  rfl
end Sl
namespace Sl
open PySem PySem.Spec PyProof.Rows L2
/-! ### rules by K alone (they go into a comprehension's block) -/
def rListOf (K : PySem.W.Frag) : List V → Hp → VK → Prop := fun xs H Q => ∃ p ys, xs = [.ref p] ∧ (SqL K H p ys ∨ SqT K H p ys) ∧ ∀ l, H l = none → Q (.ref l) (upd H l (.lst ys))
def rTupleOf (K : PySem.W.Frag) : List V → Hp → VK → Prop := fun xs H Q => ∃ p ys, xs = [.ref p] ∧ ((SqL K H p ys ∧ ∀ l, H l = none → Q (.ref l) (upd H l (.tup ys))) ∨ (SqT K H p ys ∧ Q (.ref p) H))
def rLenK (K : PySem.W.Frag) : List V → Hp → VK → Prop := fun xs H Q => ∃ x n, xs = [x] ∧ LenV K x H n ∧ Q (.int (n : Nat)) H
section
variable {X : Cx} {K : PySem.W.Frag}
theorem cK_list (e : X.K = K) : CallR X (.type "list") (rListOf K) := by subst e; exact call_list_of
theorem cK_tuple (e : X.K = K) : CallR X (.type "tuple") (rTupleOf K) := by subst e; exact call_tuple_of
theorem cK_len (e : X.K = K) : CallR X (.builtin "len") (rLenK K) := by subst e; exact call_len
theorem cK_isi (e : X.K = K) : CallR X (.builtin "isinstance") (rIsi K) := by subst e; exact call_isi
theorem cK_isiT (e : X.K = K) : CallR X (.builtin "isinstance") (rIsiT K) := by subst e; exact call_isiT
theorem cK_sortedS (e : X.K = K) : CallR X (.builtin "sorted") (rSortedS K) := by subst e; exact cr_sortedS
theorem xK_list (e : X.K = K) : IxR X (rIxL K) := by subst e; exact ix_list
theorem xK_tup (e : X.K = K) : IxR X (rIxT K) := by subst e; exact ix_tup
theorem xK_seq (e : X.K = K) : IxR X (rIx K) := by subst e; exact ix_seq
theorem oK_in (e : X.K = K) : OpR X (compareOp .In) (rIn K false) := by subst e; exact op_in_seq
theorem oK_nin (e : X.K = K) : OpR X (compareOp .NotIn) (rIn K true) := by subst e; exact op_notIn_seq
theorem oK_eqD (e : X.K = K) (hu : X.A.units + 64 < cLine) : OpR X (compareOp .Eq) (rEqD K) := by subst e; exact op_eqD hu
theorem oK_neD (e : X.K = K) (hu : X.A.units + 64 < cLine) : OpR X (compareOp .NotEq) (rNeD K) := by subst e; exact op_neD hu
theorem iK_list {tg l : Expr} {tl : TE} (e : X.K = K) (hl : PE X l tl) : PI X tg l (iList K tl) := by subst e; exact pi_list hl
theorem iK_tup {tg l : Expr} {tl : TE} (e : X.K = K) (hl : PE X l tl) : PI X tg l (iTup K tl) := by subst e; exact pi_tup hl
end
end Sl
namespace Sl
open PySem PySem.Spec PyProof.Rows L2
/-! ### comparisons of data, membership, sorted: over what reads as data -/
section
variable {X : Cx} {K : PySem.W.Frag}
def okD (d e : PyData) : Prop := PySem.W.alike d e = true ∧ d ≠ .none ∧ d.depth ≤ 32
def rLtP (K : PySem.W.Frag) : R2 := fun x y H Q => ∃ d e, Dp K H x d ∧ Dp K H y e ∧ okD d e ∧ Q (.bl (PySem.W.dataLt d e)) H
def rGeP (K : PySem.W.Frag) : R2 := fun x y H Q => ∃ d e, Dp K H x d ∧ Dp K H y e ∧ okD d e ∧ Q (.bl (!PySem.W.dataLt d e)) H
def rGtP (K : PySem.W.Frag) : R2 := fun x y H Q => ∃ d e, Dp K H x d ∧ Dp K H y e ∧ okD d e ∧ Q (.bl (PySem.W.dataLt e d)) H
def rLeP (K : PySem.W.Frag) : R2 := fun x y H Q => ∃ d e, Dp K H x d ∧ Dp K H y e ∧ okD d e ∧ Q (.bl (!PySem.W.dataLt e d)) H
theorem oP_lt (e : X.K = K) (hu : X.A.units + 64 < cLine) : OpR X (compareOp .Lt) (rLtP K) := by
  subst e
  intro pins s σ H x y v u Q I rx ry h
  obtain ⟨d, e, hd, he, ⟨h1, h2, h3⟩, q⟩ := h
  obtain ⟨as, r1⟩ := Dp.reads I d x v hd rx
  obtain ⟨bs, r2⟩ := Dp.reads I e y u he ry
  exact PySem.W.lt_data r1 r2 h1 h2 (by have := Nat.min_le_left d.depth e.depth; omega) ⟨.bl _, H, I, rfl, q⟩
theorem oP_ge (e : X.K = K) (hu : X.A.units + 64 < cLine) : OpR X (compareOp .GtE) (rGeP K) := by
  subst e
  intro pins s σ H x y v u Q I rx ry h
  obtain ⟨d, e, hd, he, ⟨h1, h2, h3⟩, q⟩ := h
  obtain ⟨as, r1⟩ := Dp.reads I d x v hd rx
  obtain ⟨bs, r2⟩ := Dp.reads I e y u he ry
  exact PySem.W.ge_data r1 r2 h1 h2 (by have := Nat.min_le_left d.depth e.depth; omega) ⟨.bl _, H, I, rfl, q⟩
theorem oP_gt (e : X.K = K) (hu : X.A.units + 64 < cLine) : OpR X (compareOp .Gt) (rGtP K) := by
  subst e
  intro pins s σ H x y v u Q I rx ry h
  obtain ⟨d, e, hd, he, ⟨h1, h2, h3⟩, q⟩ := h
  obtain ⟨as, r1⟩ := Dp.reads I d x v hd rx
  obtain ⟨bs, r2⟩ := Dp.reads I e y u he ry
  exact PySem.W.gt_data r1 r2 h1 h2 (by have := Nat.min_le_left d.depth e.depth; omega) ⟨.bl _, H, I, rfl, q⟩
theorem oP_le (e : X.K = K) (hu : X.A.units + 64 < cLine) : OpR X (compareOp .LtE) (rLeP K) := by
  subst e
  intro pins s σ H x y v u Q I rx ry h
  obtain ⟨d, e, hd, he, ⟨h1, h2, h3⟩, q⟩ := h
  obtain ⟨as, r1⟩ := Dp.reads I d x v hd rx
  obtain ⟨bs, r2⟩ := Dp.reads I e y u he ry
  exact PySem.W.le_data r1 r2 h1 h2 (by have := Nat.min_le_left d.depth e.depth; omega) ⟨.bl _, H, I, rfl, q⟩
/-- no dict within, not too deep -/
def pln (d : PyData) : Prop := d.plain = true ∧ d.depth ≤ 32
def rEqP (K : PySem.W.Frag) : R2 := fun x y H Q => ∃ d e, Dp K H x d ∧ Dp K H y e ∧ pln d ∧ pln e ∧ Q (.bl (PyData.eqv d e)) H
def rNeP (K : PySem.W.Frag) : R2 := fun x y H Q => ∃ d e, Dp K H x d ∧ Dp K H y e ∧ pln d ∧ pln e ∧ Q (.bl (!PyData.eqv d e)) H
theorem oP_eq (e : X.K = K) (hu : X.A.units + 64 < cLine) : OpR X (compareOp .Eq) (rEqP K) := by
  subst e
  intro pins s σ H x y v u Q I rx ry h
  obtain ⟨d, e, hd, he, ⟨h1, h3⟩, ⟨h2, _⟩, q⟩ := h
  obtain ⟨as, r1⟩ := Dp.reads I d x v hd rx
  obtain ⟨bs, r2⟩ := Dp.reads I e y u he ry
  exact PySem.SeqAt.eq_plain r1 r2 h1 h2 (by have := Nat.min_le_left d.depth e.depth; omega) ⟨.bl _, H, I, rfl, q⟩
theorem oP_ne (e : X.K = K) (hu : X.A.units + 64 < cLine) : OpR X (compareOp .NotEq) (rNeP K) := by
  subst e
  intro pins s σ H x y v u Q I rx ry h
  obtain ⟨d, e, hd, he, ⟨h1, h3⟩, ⟨h2, _⟩, q⟩ := h
  obtain ⟨as, r1⟩ := Dp.reads I d x v hd rx
  obtain ⟨bs, r2⟩ := Dp.reads I e y u he ry
  exact PySem.SeqAt.ne_plain r1 r2 h1 h2 (by have := Nat.min_le_left d.depth e.depth; omega) ⟨.bl _, H, I, rfl, q⟩
def rInP (K : PySem.W.Frag) (neg : Bool) : R2 := fun x y H Q => ∃ d ds, Dp K H x d ∧ (Dp K H y (.list ds) ∨ Dp K H y (.tuple ds)) ∧ pln d ∧ PyData.plainAll ds = true ∧ Q (.bl (if neg then !(ds.any fun z => PyData.eqv z d) else ds.any fun z => PyData.eqv z d)) H
theorem oP_in (e : X.K = K) (hu : X.A.units + 64 < cLine) : OpR X (compareOp .In) (rInP K false) := by
  subst e
  intro pins s σ H x y v u Q I rx ry h
  obtain ⟨d, ds, hd, he, ⟨h1, h3⟩, h2, q⟩ := h
  obtain ⟨as, r1⟩ := Dp.reads I d x v hd rx
  rcases he with he | he
  · obtain ⟨bs, r2⟩ := Dp.reads I _ y u he ry
    exact PySem.SeqAt.in_list_data r2 r1 h2 h1 (by have := Nat.min_le_right (PyData.depthAll ds) d.depth; omega) ⟨.bl _, H, I, rfl, q⟩
  · obtain ⟨bs, r2⟩ := Dp.reads I _ y u he ry
    exact PySem.SeqAt.in_tuple_data r2 r1 h2 h1 (by have := Nat.min_le_right (PyData.depthAll ds) d.depth; omega) ⟨.bl _, H, I, rfl, q⟩
theorem oP_nin (e : X.K = K) (hu : X.A.units + 64 < cLine) : OpR X (compareOp .NotIn) (rInP K true) := by
  subst e
  intro pins s σ H x y v u Q I rx ry h
  obtain ⟨d, ds, hd, he, ⟨h1, h3⟩, h2, q⟩ := h
  obtain ⟨as, r1⟩ := Dp.reads I d x v hd rx
  rcases he with he | he
  · obtain ⟨bs, r2⟩ := Dp.reads I _ y u he ry
    exact PySem.SeqAt.notIn_list_data r2 r1 h2 h1 (by have := Nat.min_le_right (PyData.depthAll ds) d.depth; omega) ⟨.bl _, H, I, rfl, q⟩
  · obtain ⟨bs, r2⟩ := Dp.reads I _ y u he ry
    exact PySem.SeqAt.notIn_tuple_data r2 r1 h2 h1 (by have := Nat.min_le_right (PyData.depthAll ds) d.depth; omega) ⟨.bl _, H, I, rfl, q⟩
/-- sorted(xs) of data -/
def rSortedP (K : PySem.W.Frag) : List V → Hp → VK → Prop := fun vs H Q => ∃ (a : Addr) (xs : List V) (ds : List PyData), vs = [.ref a] ∧ SqL K H a xs ∧ DpAll K H xs ds ∧ PySem.W.AllAlike ds ∧ PySem.W.Sortable ds ∧ (∀ d ∈ ds, d.depth ≤ 32) ∧
  ∀ ys p, DpAll K H ys (ds.mergeSort (PySem.W.dataLe false fun d => d)) → H p = none → Q (.ref p) (upd H p (.lst ys))
theorem each_of {H : Hp} : ∀ {xs : List V} {us : List Value} {ds : List PyData}, Vals xs us → DpAll K H xs ds → PySem.W.EachIs (fun u d => ∃ v, RelV v u ∧ Dp K H v d) us ds
  | _, _, _, .nil, .nil => .nil
  | _, _, _, .cons r rs, .cons h hs => .cons ⟨_, r, h⟩ (each_of rs hs)
theorem of_each {H : Hp} : ∀ {us : List Value} {ds : List PyData}, PySem.W.EachIs (fun u d => ∃ v, RelV v u ∧ Dp K H v d) us ds → ∃ xs, Vals xs us ∧ DpAll K H xs ds
  | _, _, .nil => ⟨[], .nil, .nil⟩
  | _, _, .cons ⟨v, r, h⟩ t => by
    obtain ⟨xs, rs, hs⟩ := of_each t
    exact ⟨v :: xs, .cons r rs, .cons h hs⟩
theorem each_mono {α β : Type} {R S : α → β → Prop} (k : ∀ a b, R a b → S a b) : ∀ {xs : List α} {ys : List β}, PySem.W.EachIs R xs ys → PySem.W.EachIs S xs ys
  | _, _, .nil => .nil
  | _, _, .cons h t => .cons (k _ _ h) (each_mono k t)
theorem dpAll_len {H : Hp} : ∀ {xs : List V} {ds : List PyData}, DpAll K H xs ds → xs.length = ds.length
  | _, _, .nil => rfl
  | _, _, .cons _ t => congrArg Nat.succ (dpAll_len t)
theorem cP_sorted (e : X.K = K) (hu : X.A.units + 64 < cLine) : CallR X (.builtin "sorted") (rSortedP K) := by
  subst e
  intro pins s σ H vs us Q I r h
  obtain ⟨a, xs, ds, rfl, hs, hd, ha, hk, hdep, q⟩ := h
  obtain ⟨its, rv, hl, hz⟩ := I.list hs
  rw [Vals.ref1 r]
  have e1 := each_of rv hd
  have ln : ds.length ≤ sizeLine := by rw [← dpAll_len hd]; exact hz
  refine PySem.W.sorted_data (enc := fun d => d) hl.isList e1 (each_mono (fun u d ⟨v, rv, hv⟩ => Dp.reads I d v u hv rv) e1) (by rw [List.map_id']; exact ha) (by rw [List.map_id']; exact hk) ln (fun d hm => by have := hdep d hm; omega) fun out ho h1 => ?_
  obtain ⟨ys, rv2, hy⟩ := of_each h1
  obtain ⟨ep, he'⟩ := PyProof.Rows.sortedAll_at s.heap its (List.toArray out)
  have hlen : ys.length ≤ sizeLine := by rw [rv2.length, ho]; exact ln
  exact ⟨.ref _, upd H (s.heap.objs.size + 1) (.lst ys), I.laid (t' := s.toks) (fun _ _ => PyProof.Rows.sortedAll_old) (Nat.le_succ _) ⟨hlen, out, ep, rv2, he'⟩, rfl, q ys _ hy (I.hok.fresh (Nat.le_succ _))⟩
/-- xs.extend(t), t a tuple -/
def rExtendT (K : PySem.W.Frag) : V → List V → Hp → VK → Prop := fun x vs H Q => ∃ l b xs zs, x = .ref l ∧ vs = [.ref b] ∧ H l = some (.lst xs) ∧ SqT K H b zs ∧ xs.length + zs.length ≤ sizeLine ∧ Q .non (upd H l (.lst (xs ++ zs)))
end
end Sl
namespace Sl
open PySem PySem.Spec PyProof.Rows L2
theorem ext_tup (l b : Addr) (zs ws : Array Value) (n m : Nat) (dd : Option Addr) (sl : Array (Option Value)) (hs0 : ¬(!zs.isEmpty && Builtin.List.listTooLong (zs.size + ws.size)) = true) (hs1 : zs.size ≤ sizeLine) (hs2 : zs.size + ws.size ≤ sizeLine + 1) :
    Meets (Builtin.«list.extend» ⟨[.ref l, .ref b], []⟩) (fun _ R s => s.heap.get? l = some { cls := .type "list", dict := none, data := .seq zs n, slots := #[] } ∧ s.heap.get? b = some { cls := .type "tuple", dict := dd, data := .seq ws m, slots := sl } ∧
      R (.ok (.ret Value.none)) { s with heap := s.heap.update l (Obj.mapSeq fun x => x ++ ws) }) :=
  .of_wp fun prog w A R s h => by
    obtain ⟨hp, g, d, tk, os⟩ := s
    obtain ⟨hl, hb, h⟩ := h
    have f1 := AutoSeq1.idx_int; have f2 := AutoSeq1.sub_tuple_tuple; have f3 := AutoSeq1.sub_list_list
    have f4 := AutoSeq1.sub_tuple_list; have f5 := AutoSeq1.sub_list_tuple
    have hz' : (zs ++ ws).size ≤ sizeLine + 1 := by rw [Array.size_append]; exact hs2
    wp_walk using (wpAny_updateSeq hl rfl (hz := hs1) (_hz' := hz')), AutoSeq1.wpAny_loadPart' hl, AutoSeq1.wpAny_loadPart' hb
    exact ⟨_, rfl, h⟩
section
variable {X : Cx} {K : PySem.W.Frag}
theorem mt_extendT (e : X.K = K) : MtM X "list.extend" (rExtendT K) := by
  subst e
  intro pins s σ H x vs v us Q I rx rv h
  obtain ⟨l, b, xs, zs, rfl, rfl, hH, hB, hz, q⟩ := h
  cases rx
  obtain ⟨u, rfl, ru⟩ := rv.one
  cases ru
  obtain ⟨z, its, n, r, hl, e⟩ := I.lstM hH
  obtain ⟨its2, r2, ⟨o2, e2, c2, n2, d2⟩, hz2⟩ := I.tuple hB
  obtain ⟨oc, od, dt, sl⟩ := o2
  simp only at c2 d2
  subst c2 d2
  have l1 := r.length
  have l2 := r2.length
  have hsz : its.toArray.size + its2.toArray.size ≤ sizeLine := by rw [List.size_toArray, List.size_toArray]; omega
  have hlong : ¬ (!its.toArray.isEmpty && Builtin.List.listTooLong (its.toArray.size + its2.toArray.size)) = true := by
    rw [notLongL hsz, Bool.and_false]
    exact Bool.false_ne_true
  refine call_meets F.slot_list_extend ⟨_, e, rfl⟩ F.entry_list_extend (F.args_list_extend_2 _ _) (ext_tup l b its.toArray its2.toArray n n2 od sl hlong (by rw [List.size_toArray]; omega) (by omega)) ⟨e, e2, ?_⟩
  refine ⟨.non, _, I.lset (its' := its ++ its2) hH e (by simp) (r.append r2) ?_, rfl, q⟩
  rw [List.length_append]
  omega
end
end Sl
namespace Sl
open PySem PySem.Spec PyProof.Rows L2
theorem sortsAt_short {prog : Program} {w : World} {A : Around} {s : Shared} {vs : List Value} {ds : List PyData} (e : PySem.W.EachIs (fun v d => ∃ as, Reads s.heap v d as) vs ds) (hal : PySem.W.AllAlike ds) (h1 : ds.length ≤ 1) (hn : ∀ d ∈ ds, d ≠ .none) (hu : ∀ d, d ∈ ds → A.units + d.depth < cLine) : PySem.W.SortsAt prog w A s (PySem.W.dataKind s.heap ds) vs := by
  refine ⟨fun v hv => ?_, general', fun E x y a b Q ha hb hq => ?_, fun h2 => ?_⟩
  · obtain ⟨d, hd, as, r⟩ := e.left v hv
    exact ⟨_, PySem.W.dataKind_some hal hd r⟩
  · obtain ⟨d, as, hd, ra, rfl⟩ := PySem.W.dataKind_inv ha
    obtain ⟨d', as', hd', rb, rfl⟩ := PySem.W.dataKind_inv hb
    exact PySem.W.oneLt_alike (f := false) (fun z => Bool.noConfusion z) ra rb (hal d hd d' hd') (hn d hd) (Nat.lt_of_le_of_lt (Nat.add_le_add_left (Nat.min_le_left _ _) _) (hu d hd)) hq
  · have := e.length
    omega
section
variable {X : Cx} {K : PySem.W.Frag}
def rSortedQ (K : PySem.W.Frag) : List V → Hp → VK → Prop := fun vs H Q => ∃ (a : Addr) (xs : List V) (ds : List PyData), vs = [.ref a] ∧ SqL K H a xs ∧ DpAll K H xs ds ∧ PySem.W.AllAlike ds ∧ (PySem.W.Sortable ds ∨ (ds.length ≤ 1 ∧ ∀ d ∈ ds, d ≠ .none)) ∧ (∀ d ∈ ds, d.depth ≤ 32) ∧
  ∀ ys p, DpAll K H ys (ds.mergeSort (PySem.W.dataLe false fun d => d)) → H p = none → Q (.ref p) (upd H p (.lst ys))
theorem cQ_sorted (e : X.K = K) (hu : X.A.units + 64 < cLine) : CallR X (.builtin "sorted") (rSortedQ K) := by
  subst e
  intro pins s σ H vs us Q I r h
  obtain ⟨a, xs, ds, rfl, hs, hd, ha, hk, hdep, q⟩ := h
  obtain ⟨its, rv, hl, hz⟩ := I.list hs
  rw [Vals.ref1 r]
  have e1 := each_of rv hd
  have ln : ds.length ≤ sizeLine := by rw [← dpAll_len hd]; exact hz
  have fin : ∀ out : List Value, out.length = ds.length → PySem.W.EachIs (fun u d => ∃ v, RelV v u ∧ Dp X.K H v d) out (ds.mergeSort (PySem.W.dataLe false fun d => d)) → ∃ v H', Inv X pins σ H' { s with heap := PyProof.Rows.sortedAll s.heap its (List.toArray out) } ∧ RelV v (.ref (s.heap.objs.size + 1)) ∧ Q v H' := fun out ho h1 => by
    obtain ⟨ys, rv2, hy⟩ := of_each h1
    obtain ⟨ep, he'⟩ := PyProof.Rows.sortedAll_at s.heap its (List.toArray out)
    have hlen : ys.length ≤ sizeLine := by rw [rv2.length, ho]; exact ln
    exact ⟨.ref _, upd H (s.heap.objs.size + 1) (.lst ys), I.laid (t' := s.toks) (fun _ _ => PyProof.Rows.sortedAll_old) (Nat.le_succ _) ⟨hlen, out, ep, rv2, he'⟩, rfl, q ys _ hy (I.hok.fresh (Nat.le_succ _))⟩
  rcases hk with hk | ⟨hk, hn⟩
  · exact PySem.W.sorted_data (enc := fun d => d) hl.isList e1 (each_mono (fun u d ⟨v, rv, hv⟩ => Dp.reads I d v u hv rv) e1) (by rw [List.map_id']; exact ha) (by rw [List.map_id']; exact hk) ln (fun d hm => by have := hdep d hm; omega) fin
  · have er' : PySem.W.EachIs (fun v b => ∃ as, Reads (PySem.W.sortingHeap (PySem.W.copyHeap s.heap its) (s.heap.objs.size + 1) its) v b as) its ds := each_mono (fun v b ⟨as, r⟩ => ⟨as, PyProof.Rows.Reads.keeps (fun _ _ => PySem.W.sorting_copy_old) r⟩) (each_mono (fun u d ⟨v, rv, hv⟩ => Dp.reads I d v u hv rv) e1)
    refine PySem.W.sorted_vals hl.isList (sortsAt_short (s := { s with heap := PySem.W.sortingHeap (PySem.W.copyHeap s.heap its) (s.heap.objs.size + 1) its }) er' ha hk hn (fun d hm => by have := hdep d hm; show _ + 2 + _ < _; omega)) (by rw [e1.length]; exact ln)
      (fin _ (by rw [PySem.W.sortVals_length false rfl]; exact e1.length) ?_)
    have := PySem.W.sortVals_data (h' := PySem.W.sortingHeap (PySem.W.copyHeap s.heap its) (s.heap.objs.size + 1) its) (enc := fun d : PyData => d) false e1 er' (by rw [List.map_id']; exact ha)
    rw [List.map_id'] at this
    exact this
end
end Sl
namespace Sl
open PySem PySem.Spec PyProof.Rows L2
/-- what the text says of the base class whose __init__ is ValueError's: at S -/
structure SeI (K : PySem.W.Frag) (S : Addr) (mc : Value) : Prop where
  rd : PySem.W.readsIn K S mc = true
  ga : PySem.W.specialIn K (.ref S) "__getattribute__" = some (some (.builtin "type.__getattribute__"))
  it : PySem.W.findCls K (.ref S) mc "__init__" = some (.val (.builtin "ValueError.__init__"))
section
variable {X : Cx} {o e : Expr} {es : List Expr} {to te : TE} {ta : TA} {f x : Str} {p p' p1 p2 pos : Pos}
/-- Base.__init__(self, ..), Base an own class over ValueError without __init__ -/
theorem pe_seinit {S : Addr} {mc : Value} {pl : Sem Bool} (T : SeI X.K S mc) (hg : Gl X x) (hm : X.mg x = some (.ref S)) (ha : PA X (e :: es) ta) (hdb : (x == ("__debug__" : Str)) = false := by decide)
    (hc : eval (.Call (.Attribute (.Name x p1) "__init__" p2) (e :: es) [] pos) X.env = (do
      let ov ← eval (.Name x p1) X.env
      standAt p2.atName
      let (f, first) ← holding [ov] (getMethod ov "__init__" pl)
      callWith pos f first (backTo pos (starEach (e :: es) X.env)) (backToKw pos (keywordEach [] X.env))) := by rfl)
    (he : starEach (e :: es) X.env = (false, eval e X.env) :: starEach es X.env := by rfl) (hpl : (backTo pos (starEach es X.env)).any (·.1) = false := by rfl) :
    PE X (.Call (.Attribute (.Name x p1) "__init__" p2) (e :: es) [] pos) (tVeI X.K ta) := by
  refine ⟨fun pins s σ H Q I h => ?_⟩
  refine PySem.W.methodCall_KW (ld_glob I hg hm ?_ hdb) hc
  refine PySem.W.method_cls I.kIn T.ga (PySem.W.cls_value I.kIn T.rd T.it rfl ?_)
  show wpAny _ _ (callWith pos (Value.builtin "ValueError.__init__") [] (backTo pos (starEach (e :: es) X.env)) []) _ _ _
  refine PyProof.Rows.callWith_method1 (thn (ha.run pos pins _ σ H _ (I.tok _) h) fun us s1 ⟨vs, H1, I1, r1, a, C, ws, ev, hl, T, ea, q⟩ => ?_) he hpl
  subst ev
  cases r1 with
  | @cons _ u0 _ ur ra rw' =>
    obtain rfl : u0 = Value.ref a := ra
    have hlen : ur.length ≤ sizeLine := by
      rw [← Paired.length rw', sizeLine_eq]
      omega
    exact oinit_ok T I1 ea hlen fun s' J => ⟨.non, H1, J, rfl, q⟩
end
end Sl
namespace Sl
open PySem PySem.Spec PyProof.Rows L2
/-- an own exception class with one field that its __init__ sets: x the class, at C; f the field; its __init__ at fI -/
structure ErrK (K : PySem.W.Frag) (mg : Str → Option Value) (x f : Str) (C fI : Addr) (qual : Str) (st : Stmt) (fd : FuncData) : Prop where
  gC : mg x = some (.ref C)
  oex : OexC K C
  no : PySem.W.findIn K (.ref C) f = some none
  iC : PySem.W.findIn K (.ref C) "__init__" = some (some (.ref fI))
  tI : PySem.W.typeIn K (.ref fI) = some (.type "function")
  xf : XfC K C
  isa : PySem.W.findIn K (.ref C) "__class__" = some (some (.builtin "object.__class__"))
  isn : PySem.W.specialIn K (.builtin "object.__class__") "__get__" = some (some (.builtin "getset_descriptor.__get__"))
  ist : PySem.W.takesIn K (.builtin "object.__class__") = some true
  ism : PySem.W.mroIn K C (.type "object") = some true
  isc : PySem.W.isClsIn K C = true
  F : Fun K "__init__" qual st fI fd
  b : Binds K fd ["self", f] []
def sp_err (C : Addr) (f : Str) : Sp := fun vs H Q _ => ∃ (a : Addr) (v : V), vs = [.ref a, v] ∧ H a = some (exo a C none) ∧ ∀ dx, H dx = none → dx ≠ a → Q .non (upd (upd H dx (exd dx [(f, v)])) a (exo a C (some dx)))
section
variable {X : Cx} {o e : Expr} {es : List Expr} {to te : TE} {ta : TA} {f x : Str} {p p' p1 p2 pos : Pos}
/-- the end of such a making -/
theorem mkO_of {C : Addr} {vs : List V} {H1 : Hp} {Q : XK} (h : ∃ v, vs = [v] ∧ ∀ d, H1 d = none → Q (.ref C) (some d) (upd H1 d (.xd [(f, v)]))) :
    vs.length ≤ 1000 ∧ ∀ a, H1 a = none → sp_err C f (.ref a :: (vs ++ [])) (upd H1 a (exo a C none))
      (fun v H2 => v = .non ∧ ∃ (d : Addr) (fs : List (Str × V)), H2 a = some (exo a C (some d)) ∧ H2 d = some (exd d fs) ∧ H1 d = none ∧ Q (.ref C) (some d) (upd (del H2 a) d (.xd fs))) (fun _ _ _ => False) := by
  obtain ⟨v, rfl, q⟩ := h
  refine ⟨by simp, fun a ha => ⟨a, v, rfl, upd_same, fun dx hdx ne => ⟨rfl, dx, [(f, v)], upd_same, ?_, ?_, ?_⟩⟩⟩
  · rw [upd_ne ne, upd_same]
  · rwa [upd_ne ne] at hdx
  · have hd : H1 dx = none := by rwa [upd_ne ne] at hdx
    have e : upd (del (upd (upd (upd H1 a (exo a C none)) dx (exd dx [(f, v)])) a (exo a C (some dx))) a) dx (.xd [(f, v)]) = upd H1 dx (.xd [(f, v)]) := by
      funext b
      by_cases h1 : b = dx
      · subst h1; rw [upd_same, upd_same]
      · rw [upd_ne h1, upd_ne h1]
        by_cases h2 : b = a
        · subst h2; rw [del_same, ha]
        · rw [del_ne h2, upd_ne h2, upd_ne h1, upd_ne h2]
    rw [e]
    exact q dx hd
/-- C(e) -/
theorem pmk_err {C fI : Addr} {qual : Str} {st : Stmt} {fd : FuncData} (T : ErrK X.K X.mg x f C fI qual st fd) (F1 : FnOk X.prog X.w X.K X.mg X.base CX0 1 fI fd ["self", f] (sp_err C f)) (hr : Room 2 X.A) (hg : Gl X x) (ha : PA X (e :: es) ta)
    (hdb : (x == ("__debug__" : Str)) = false := by decide) (he : starEach (e :: es) X.env = (false, eval e X.env) :: starEach es X.env := by rfl) (hpl : (backTo pos (starEach es X.env)).any (·.1) = false := by rfl) :
    PMk X (.Call (.Name x p) (e :: es) [] pos) (tMkO C (sp_err C f) [] ta) := pmk_oex T.oex T.iC T.tI F1 hr T.b .nil pass0 hg T.gC ha hdb he hpl
/-- isinstance(e, c), e the exception that the suite holds (its dict: d) -/
def rIsF (K : PySem.W.Frag) (C a : Addr) (cls : Value) (d : Option Addr) : List V → Hp → VK → Prop := fun xs H Q => ∃ (c : V) (cv : Value) (b : Bool) (dd : Addr) (fs : List (Str × V)), xs = [.ref a, c] ∧ cls = .ref C ∧ d = some dd ∧ H dd = some (.xd fs) ∧ ClsV c cv ∧ PySem.W.kitOne K (.ref C) cv = some b ∧ Q (.bl b) H
theorem call_isF {a C fI : Addr} {oe : Obj} {cls : Value} {d : Option Addr} {pn : List (Addr × Obj)} {qual : Str} {st : Stmt} {fd : FuncData} (T : ErrK X.K X.mg x f C fI qual st fd) (hz : Zc cls d oe) (hf : ∃ vs, oe.data = .fields vs) :
    CallR (X.suite a ((a, oe) :: pn)) (.builtin "isinstance") (rIsF X.K C a cls d) := by
  intro pins s σ H xs us Q I r h
  obtain ⟨c, cv, b, dd, fs, rfl, rfl, rfl, hd, hcv, e, q⟩ := h
  obtain ⟨u1, u2, rfl, r1, r2⟩ := vals2 r
  have e2 := hcv.eq r2
  subst e2
  cases (show u1 = Value.ref a from r1)
  obtain ⟨ha, _⟩ := I.pin (a, oe) (List.mem_append_left _ List.mem_cons_self)
  obtain ⟨vs, hv⟩ := hf
  have hx : ObjOk X.prog X.w H s.heap dd (.xd fs) := I.hok dd _ hd
  obtain ⟨mA, hns, hr⟩ := hx
  obtain ⟨od, ho, hl⟩ := lookIn_ns hns
  have J : PySem.W.InstAt s.heap a oe C (some od) := ⟨ha, hz.1, by unfold PySem.W.notCls; rw [hv] <;> rfl, by rw [hz.2]; exact ho⟩
  exact PySem.W.kia_one (PySem.W.kitx_exc (gt := none) T.isc T.xf.ga T.xf.gg T.xf.exC T.isa T.isn T.ist T.ism) I.kIn J e (fun z => nomatch z) fun tk => ⟨.bl b, H, I.tok tk, rfl, q⟩
end
end Sl
namespace Sl
open PySem PySem.Spec PyProof.Rows L2
/-- a call with keywords, what is raised wished for at the caller's slots -/
def tCallNS (n m : Nat) (sp : Sp) (gV : List V → List V → List V) (E : L2.St → XK) (t tk : TA) : TE := fun σ H Q => t σ H fun vs H1 => tk σ H1 fun zs H2 => vs.length = n ∧ zs.length = m ∧ sp (gV vs zs) H2 Q (E σ)
section
variable {X : Cx} {CX : CXT} {k n : Nat} {f : Addr} {fd : FuncData} {ps ks : List Str} {sp : Sp} {E : L2.St → XK} {x : Str} {p pos : Pos} {e : Expr} {es : List Expr} {kws : List Keyword} {t tk : TA} {g : List Value → List Value → List Value} {gV : List V → List V → List V}
theorem run_fnNS {pins : List (Addr × Obj)} {σ : L2.St} {H : Hp} {s : Shared} {Q : VK} {us ws : List Value} {vs zs : List V} (F : FnOk X.prog X.w X.K X.mg X.base CX k f fd ps sp) (hr : Room k X.A) (hb : KBn X.K fd ps n ks g gV) (hx : PassesAt CX X σ (E σ))
    (I : Inv X pins σ H s) (r : Vals vs us) (rz : Vals zs ws) (l1 : vs.length = n) (l2 : zs.length = ks.length) (h : sp (gV vs zs) H Q (E σ)) : wpAny (model X.prog X.w) X.A (call (.ref f) us (ks.zip ws)) (EP X pins σ Q) X.xe s := by
  have r2 := hb.rel r rz
  refine wpAny_call (codeAny_mono (F.run X.A X.stack s H ⟨us, ks.zip ws⟩ (g us ws) (gV vs zs) Q (E σ) hr I.env0 (hb.to s us ws I.kIn (r.length.symm.trans l1) (rz.length.symm.trans l2)) r2 h) fun r s' hq => ?_)
  cases r with
  | error e => exact hx pins H s e s' I hq
  | ok fl =>
    cases fl with
    | ret u => exact I.after hq
    | next => exact False.elim hq
    | brk => exact False.elim hq
    | cont => exact False.elim hq
theorem pe_callNS (F : FnOk X.prog X.w X.K X.mg X.base CX k f fd ps sp) (hr : Room k X.A) (hg : Gl X x) (hm : X.mg x = some (.ref f)) (hk : PySem.W.keepIn X.K (.ref f) = true) (hb : KBn X.K fd ps n ks g gV) (hx : ∀ σ, PassesAt CX X σ (E σ))
    (ha : PA X (e :: es) t) (hkw : PK X kws tk) (hall : (backToKw pos (keywordEach kws X.env)).all (·.1.isSome) = true := by rfl) (hks : (backToKw pos (keywordEach kws X.env)).filterMap (·.1) = ks := by rfl)
    (hdb : (x == ("__debug__" : Str)) = false := by decide) (he : starEach (e :: es) X.env = (false, eval e X.env) :: starEach es X.env := by rfl)
    (hpl : ((backTo pos (starEach (e :: es) X.env)).any (·.1) || (backToKw pos (keywordEach kws X.env)).any (·.1.isNone)) = false := by rfl) :
    PE X (.Call (.Name x p) (e :: es) kws pos) (tCallNS n ks.length sp gV E t tk) := by
  refine ⟨fun pins s σ H Q I h => ?_⟩
  refine wpAny_Call_Name_kw (ld_glob I hg hm ?_ hdb)
  refine PySem.W.callWith_KW (h₀ := X.base) I.ok.mod.kin hk hall (thn (ha.run pos pins s σ H _ I h) fun us s1 ⟨vs, H1, I1, r, q⟩ => ?_) hpl he
  refine thn (hkw.run pos pins s1 σ H1 _ I1 q) fun ws s2 ⟨zs, H2, I2, rz, l1, l2, q2⟩ => ⟨I2.kIn, ?_⟩
  rw [hks]
  exact run_fnNS F hr hb (hx σ) I2 r rz l1 l2 q2
end
end Sl
namespace Sl
open PySem PySem.Spec PyProof.Rows L2
/-- s * n -/
def rRepS : R2 := fun x y H Q => ∃ (s : Str) (n : Int), x = .str s ∧ y = .int n ∧ 0 ≤ n ∧ n ≤ 1000 ∧ s.length ≤ 1000 ∧ ∀ z : Str, TL.tl z = (List.replicate n.toNat (TL.tl s)).flatten → Q (.str z) H
theorem rep_tl (k : Nat) (a : Array Nat) : ∀ b : Array Nat, ((List.replicate k a).foldl (· ++ ·) b).toList = b.toList ++ (List.replicate k a.toList).flatten := by
  induction k with
  | zero => intro b; simp
  | succ k ih =>
    intro b
    rw [List.replicate_succ, List.foldl_cons, ih, Array.toList_append, List.replicate_succ, List.flatten_cons, List.append_assoc]
theorem op_rep_str {X : Cx} : OpR X (binaryOp .Mult) rRepS := by
  intro pins s σ H x y v u Q I rx ry h
  obtain ⟨z, n, rfl, rfl, h0, h1, h2, q⟩ := h
  obtain ⟨t, rfl⟩ := rx
  obtain ⟨t', rfl⟩ := ry
  have ez : z.length = (TL.tl z).length := TL.len_tl z
  refine PySem.P.mul_str (by rw [decide_eq_false (by omega), decide_eq_false (by omega)]; rfl) (fun a _ => ?_) (fun _ _ => ?_) ?_
  · intro hh
    have : (1000 : Int) ≤ (2 ^ 63 - 1) / n := by
      rw [Int.le_ediv_iff_mul_le (by omega)]
      omega
    omega
  · have hk : z.length * n.toNat ≤ 1000 * 1000 := Nat.mul_le_mul h2 (by omega)
    show decide (z.length * n.toNat > sizeLine) = false
    rw [decide_eq_false]
    rw [sizeLine_eq]; omega
  · by_cases c : n < 1
    · rw [if_pos c]
      refine ⟨by decide, .str Str.empty, H, I.tok _, ⟨_, rfl⟩, q _ ?_⟩
      have : n = 0 := by omega
      subst this
      rfl
    · rw [if_neg c]
      by_cases c2 : (n == 1 || z.length == 0) = true
      · rw [if_pos c2]
        refine ⟨.str z, H, I, ⟨_, rfl⟩, q _ ?_⟩
        simp only [Bool.or_eq_true, beq_iff_eq] at c2
        rcases c2 with c2 | c2
        · subst c2; simp
        · have : TL.tl z = [] := List.length_eq_zero_iff.mp (by omega)
          rw [this]; simp
      · rw [if_neg c2]
        refine ⟨?_, .str _, H, I.tok _, ⟨_, rfl⟩, q _ ?_⟩
        · show ((List.replicate n.toNat z.cps).foldl (· ++ ·) #[]).size ≤ sizeLine
          have e := rep_tl n.toNat z.cps #[]
          have e2 := congrArg List.length e
          rw [Array.length_toList] at e2
          rw [e2]
          have hk : n.toNat * z.length ≤ 1000 * 1000 := Nat.mul_le_mul (by omega) h2
          have ez2 : z.cps.toList.length = z.length := by rw [Array.length_toList]; rfl
          simp only [List.nil_append, List.length_flatten, List.map_replicate, List.sum_replicate_nat, ez2]
          rw [sizeLine_eq]; omega
        · exact (rep_tl n.toNat z.cps #[]).trans (by simp)
end Sl
namespace Sl
open PySem PySem.Spec PyProof.Rows L2

/-! enumerate(v, start=k) of a list or a tuple -/
def SqB (b : Bool) (K : PySem.W.Frag) (H : Hp) (a : Addr) (xs : List V) : Prop := if b then SqL K H a xs else SqT K H a xs
def HasB (b : Bool) (h : Heap) (a : Addr) (its : Array Value) : Prop := if b then h.IsList a its else h.IsTuple a its
def ItrB (b : Bool) (h : Heap) (it a : Addr) (i : Nat) : Prop := if b then h.IsListIter it a i else h.IsTupleIter it a i
theorem seqB {X : Cx} {pins : List (Addr × Obj)} {σ : L2.St} {H : Hp} {s : Shared} {a : Addr} {xs : List V} (b : Bool) (I : Inv X pins σ H s) (h : SqB b X.K H a xs) :
    ∃ its : List Value, Vals xs its ∧ HasB b s.heap a its.toArray ∧ xs.length ≤ sizeLine := by
  cases b with
  | true => obtain ⟨its, r, p, z⟩ := I.list h; exact ⟨its, r, p.isList, z⟩
  | false => obtain ⟨its, r, p, z⟩ := I.tuple h; exact ⟨its, r, p, z⟩
theorem seqB_inj {X : Cx} {pins : List (Addr × Obj)} {σ : L2.St} {H : Hp} {s : Shared} {a : Addr} {xs ys : List V} (b : Bool) (I : Inv X pins σ H s) (h : SqB b X.K H a xs) (h' : SqB b X.K H a ys) : xs = ys := by
  cases b with
  | true => exact I.list_inj h h'
  | false => exact I.tuple_inj h h'
theorem drawsB {prog : Program} {w : World} {A : Around} (b : Bool) (hh : A.handled = none) (it a : Addr) (hne : a ≠ it) (its : Array Value) :
    Draws prog w A it [it, a] its.size (fun i v => its[i]? = some v) (fun i h => ItrB b h it a i ∧ HasB b h a its) := by
  cases b with
  | true => exact Draws.list hh it a hne its
  | false => exact Draws.tuple hh it a hne its
theorem beginsB (b : Bool) (a : Addr) (its : Array Value) : ∃ o, Begins (.ref a) o (fun h => HasB b h a its) ∧ ∀ h it, h.get? it = some o → ItrB b h it a 0 := by
  cases b with
  | true => exact ⟨_, begins_list a its, fun h it e => ⟨_, e, rfl, rfl⟩⟩
  | false => exact ⟨_, begins_tuple a its, fun h it e => ⟨_, e, rfl, rfl⟩⟩
theorem hasB_cls {b : Bool} {h : Heap} {a : Addr} {its : Array Value} (x : HasB b h a its) : ∃ o, h.get? a = some o ∧ (o.cls = .type "list" ∨ o.cls = .type "tuple") := by
  cases b with
  | true => obtain ⟨o, e, c, _⟩ := x; exact ⟨o, e, .inl c⟩
  | false => obtain ⟨o, e, c, _⟩ := x; exact ⟨o, e, .inr c⟩
theorem itrB_some {b : Bool} {h : Heap} {it a : Addr} {i : Nat} (x : ItrB b h it a i) : ∃ o, h.get? it = some o ∧ (o.cls = .type "list_iterator" ∨ o.cls = .type "tuple_iterator") ∧ ∀ v, o.data ≠ .cell v := by
  cases b with
  | true => obtain ⟨o, e, c, d⟩ := x; exact ⟨o, e, .inl c, fun v z => by rw [d] at z; cases z⟩
  | false => obtain ⟨o, e, c, d⟩ := x; exact ⟨o, e, .inr c, fun v z => by rw [d] at z; cases z⟩
theorem itrB_at {b : Bool} {h h' : Heap} {it a : Addr} {i : Nat} (x : ItrB b h it a i) (k : ∀ o, h.get? it = some o → h'.get? it = some o) : ItrB b h' it a i := by
  cases b with
  | true => obtain ⟨o, e, r⟩ := x; exact ⟨o, k o e, r⟩
  | false => obtain ⟨o, e, r⟩ := x; exact ⟨o, k o e, r⟩
/-- the sequence at a as it stands at each turn, each item in a new pair, the count from k -/
def ItE (b : Bool) (K : PySem.W.Frag) (k : Int) (a : Addr) : It :=
  ⟨fun i H => ∃ (xs : List V) (x : V), SqB b K H a xs ∧ xs[i]? = some x, fun i H v H' => ∃ T x, v = .ref T ∧ H T = none ∧ H' = upd H T (.tup [.int (k + (i : Nat)), x]) ∧ ∀ xs, SqB b K H a xs → xs[i]? = some x, fun i H => ∃ xs : List V, SqB b K H a xs ∧ xs.length = i⟩
theorem turn_enumS {P : Program} {w : World} {K : PySem.W.Frag} {elts : List Expr} {kk : Nat} {tpos : Pos} (b : Bool) (k : Int) (a e it : Addr) :
    Turn P w K (.Tuple elts kk tpos) (ItE b K k a) [e, it] e (fun i h => (∃ old, IsEnum h e it (k + ((i : Nat) : Int)) old) ∧ ItrB b h it a i ∧ e ≠ it) where
  mem := by simp
  obj := fun i h st c hc => by
    obtain ⟨⟨old, he⟩, hi, _⟩ := st
    have e' : c = e ∨ c = it := by simpa using hc
    rcases e' with z | z
    · rw [z]; exact ⟨_, he, fun v q => nomatch q⟩
    · rw [z]; obtain ⟨o, q, _, r⟩ := itrB_some hi; exact ⟨o, q, r⟩
  keep := fun i h h' st kp => let ⟨⟨old, he⟩, hi, hne⟩ := st; ⟨⟨old, kp e (by simp) _ he⟩, itrB_at hi fun o q => kp it (by simp) o q, hne⟩
  item := by
    intro X hP hw hK hc i pins s σ H E I hf st hg
    subst hP hw hK
    obtain ⟨⟨old, he⟩, hit, hne⟩ := st
    obtain ⟨xs, x, hq, hx⟩ := hg
    obtain ⟨its, rv, p, hz⟩ := seqB b I hq
    obtain ⟨u, hu, ru⟩ := rv.get hx
    obtain ⟨oa, ea, ca⟩ := hasB_cls p
    have hae : e ≠ a := fun z => by
      subst z
      have q := ea.symm.trans he
      injection q with q
      subst q
      rcases ca with z | z <;> (injection z with z; exact absurd z (by decide))
    have hai : a ≠ it := fun z => by
      subst z
      obtain ⟨o, q, c, _⟩ := itrB_some hit
      have q := ea.symm.trans q
      injection q with q
      subst q
      rcases ca with z | z <;> rcases c with y | y <;> (have q := z.symm.trans y; injection q with q; exact absurd q (by decide))
    have hel : e < s.heap.objs.size := Heap.lt_size he
    have hil : it < s.heap.objs.size := by obtain ⟨_, q, _⟩ := itrB_some hit; exact Heap.lt_size q
    have hlt : i < its.toArray.size := by
      have := (List.getElem?_eq_some_iff.mp hu).1
      simpa using this
    refine wpAny_pyNext_enum_itemC (drawsB b (show X.A.in1.handled = none from I.ok.hd hc) it a hai its.toArray) he ⟨hit, p⟩ hlt hne (by simp [hne, hae]) fun v h' tk hv ho st' hT hsz hk => ?_
    have ev : v = u := by
      have : its[i]? = some v := by simpa using hv
      rw [hu] at this
      exact (Option.some.inj this).symm
    subst ev
    refine ⟨_, rfl, wpAny_letOwnedTupleGo_enum (s := { s with heap := h', toks := tk + 1 }) ho fun h'' he' sb => ?_⟩
    have hT2 : h''.get? s.heap.objs.size = some { cls := .type "tuple", data := .seq #[.int (k + (i : Int)) tk, v] } := (sb.2 _ (Nat.ne_of_gt hel)).trans hT
    have new : ObjOk X.prog X.w (upd H s.heap.objs.size (.tup [.int (k + (i : Nat)), x])) h'' s.heap.objs.size (.tup [.int (k + (i : Nat)), x]) :=
      ⟨by show 2 ≤ sizeLine; decide, [.int (k + (i : Int)) tk, v], .cons ⟨_, rfl⟩ (.cons ru .nil), ⟨_, hT2, rfl, _, rfl⟩⟩
    have I1 : Inv X pins σ (upd H s.heap.objs.size (.tup [.int (k + (i : Nat)), x])) { s with heap := h'', toks := tk + 1 } :=
      I.turnedNew (ch := [e, it]) (fun c ob hc q => (sb.2 c (fun z => hc (by simp [z]))).trans (hk c ob (fun z => hc (by simp [z])) (fun z => hc (by simp [z])) q)) hf (Nat.le_refl _) new
    refine ⟨.ref s.heap.objs.size, _, I1, rfl, ⟨_, x, rfl, I.hok.fresh (Nat.le_refl _), rfl, fun ys hy => by rw [seqB_inj b I hy hq]; exact hx⟩, ⟨⟨v, ?_⟩, itrB_at st'.1 fun o q => (sb.2 it (Ne.symm hne)).trans q, hne⟩, fun c hc => ?_⟩
    · have e1 : k + ((i + 1 : Nat) : Int) = k + (i : Int) + 1 := by omega
      rw [e1]; exact he'
    · have hb' : c < s.heap.objs.size := by
        have e' : c = e ∨ c = it := by simpa using hc
        rcases e' with z | z
        · rw [z]; exact hel
        · rw [z]; exact hil
      rw [upd_ne (Nat.ne_of_lt hb')]
      exact (hf c hc).1
  done := by
    intro X hP hw hK hc i pins s σ H E I hf st hg
    subst hP hw hK
    obtain ⟨⟨old, he⟩, hit, hne⟩ := st
    obtain ⟨xs, hq, hx⟩ := hg
    obtain ⟨its, rv, p, hz⟩ := seqB b I hq
    obtain ⟨oa, ea, ca⟩ := hasB_cls p
    have hai : a ≠ it := fun z => by
      subst z
      obtain ⟨o, q, c, _⟩ := itrB_some hit
      have q := ea.symm.trans q
      injection q with q
      subst q
      rcases ca with z | z <;> rcases c with y | y <;> (have q := z.symm.trans y; injection q with q; exact absurd q (by decide))
    obtain ⟨f0, f1, f2, f3, f4, f5⟩ := hf it (by simp)
    have hl := rv.length
    have ei : i = its.toArray.size := by simp; omega
    subst ei
    exact wpAny_pyNext_enum_endD (drawsB b (show X.A.in1.handled = none from I.ok.hd hc) it a hai its.toArray) he ⟨hit, p⟩ fun h' eb => ⟨rfl, I.turned (t' := s.toks) (fun b o hb q => eb b o hb q) f0 f1 f3 f4 f5⟩
  self := fun A i s Q E st h => let ⟨⟨_, he⟩, _⟩ := st; wpAny_pyIter_enum he h

section
variable {M : Model} {A : Around} {E : Value → Shared → Prop} {s : Shared} {env : Env}
theorem callWith_type_kw {pos : Pos} {T : String} {e : Expr} {rest : List Expr} {kws : List Keyword} {Q : Value → Shared → Prop}
    (h : wpAny M A (spliced (backTo pos (starEach (e :: rest) env))) (fun vs s₁ => wpAny M A (evalAll ((backToKw pos (keywordEach kws env)).map (·.2)))
      (fun kvs s₂ => wpAny M A (call (.type T) vs (((backToKw pos (keywordEach kws env)).filterMap (·.1)).zip kvs)) Q E s₂) E s₁) E s)
    (he : backTo pos (starEach (e :: rest) env) = (false, eval e env) :: backTo pos (starEach rest env) := by rfl)
    (hplain : (backTo pos (starEach (e :: rest) env)).any (·.1) = false := by rfl)
    (hall : (backToKw pos (keywordEach kws env)).all (·.1.isSome) = true := by rfl)
    (hkw : (backToKw pos (keywordEach kws env)).any (·.1.isNone) = false := by rfl) :
    wpAny M A (callWith pos (.type T) [] (backTo pos (starEach (e :: rest) env)) (backToKw pos (keywordEach kws env))) Q E s := by
  unfold callWith
  refine wpAny_bind (wpAny_holding (wpAny_mono (Q := fun a s₁ => wpAny M A (call (.type T) a.pos a.kw) Q E s₁) ?_ (fun a s₁ h₁ => wpAny_bind (wpAny_standAt ?_)) fun _ _ x => x))
  · rw [he] at h ⊢
    exact evalArgs_kwB hall h
  · simp only [hplain, hkw, Bool.or_false]
    refine wpAny_bind (wpAny_pure ?_)
    exact wpAny_bind (wpAny_mono h₁ (fun r s₂ hr => wpAny_bind (wpAny_holding (wpAny_point (wpAny_pure hr)))) fun _ _ x => x)
end
def iEnumS (K : PySem.W.Frag) (ta tk : TA) : TI := fun σ H R => ta σ H fun vs H1 => tk σ H1 fun zs H2 => ∃ b a xs k, vs = [.ref a] ∧ zs = [.int k] ∧ SqB b K H2 a xs ∧ 0 ≤ k ∧ k < 2 ^ 62 ∧ R (ItE b K k a) H2
theorem pi_enumS {X : Cx} {K : PySem.W.Frag} {e v : Expr} {ta tk : TA} {p pos tpos kp : Pos} {elts : List Expr} {kk : Nat} (hK : X.K = K) (hg : Gl X "enumerate") (hm : X.mg "enumerate" = none) (ha : PA X [e] ta) (hk : PK X [⟨some "start", v, kp⟩] tk)
    (he : backTo pos (starEach [e] X.env) = (false, eval e X.env) :: backTo pos (starEach [] X.env) := by rfl) (hpl : (backTo pos (starEach [e] X.env)).any (·.1) = false := by rfl)
    (hall : (backToKw pos (keywordEach [⟨some "start", v, kp⟩] X.env)).all (·.1.isSome) = true := by rfl) (hnone : (backToKw pos (keywordEach [⟨some "start", v, kp⟩] X.env)).any (·.1.isNone) = false := by rfl)
    (hks : (backToKw pos (keywordEach [⟨some "start", v, kp⟩] X.env)).filterMap (·.1) = [Str.ofString "start"] := by rfl) :
    PI X (.Tuple elts kk tpos) (.Call (.Name "enumerate" p) [e] [⟨some "start", v, kp⟩] pos) (iEnumS K ta tk) := by
  subst hK
  refine ⟨fun pins s σ H R I h => ?_⟩
  refine wpAny_Call_Name_kw (ld_blt I hg hm boot_enumerate ?_)
  refine callWith_type_kw (thn (ha.run pos pins s σ H _ I h) fun us s1 ⟨vs, H1, I1, r1, q1⟩ => thn (hk.run pos pins s1 σ H1 _ I1 q1) fun ws s2 ⟨zs, H2, I2, r2, q2⟩ => ?_) he hpl hall hnone
  rw [hks]
  obtain ⟨b, a, xs, k, ex, ez, hq, k0, k1, q⟩ := q2
  subst ex ez
  cases r1 with
  | cons r rr =>
    cases rr
    cases r
    cases r2 with
    | cons r' rr' =>
      cases rr'
      obtain ⟨tk, rfl⟩ := r'
      obtain ⟨its, rv, p', hz⟩ := seqB b I2 hq
      obtain ⟨o, B, hB⟩ := beginsB b a its.toArray
      refine enum_begins_start B p' (by omega) (by omega) fun h' hen hit hsz hkp => wpAny_pyIter_enum hen ?_
      have I3 : Inv X pins σ H2 { s2 with heap := h' } := I2.kept (t' := s2.toks) hkp
      refine ⟨s2.heap.objs.size + 1, [s2.heap.objs.size + 1, s2.heap.objs.size], _, _, H2, rfl, I3, turn_enumS b k a (s2.heap.objs.size + 1) s2.heap.objs.size, ⟨⟨.none, ?_⟩, hB _ _ hit, Nat.succ_ne_self _⟩, fun c hc => ?_, q⟩
      · have e0 : k + ((0 : Nat) : Int) = k := by omega
        rw [e0]; exact hen
      · have e' : c = s2.heap.objs.size + 1 ∨ c = s2.heap.objs.size := by simpa using hc
        have hle : s2.heap.objs.size ≤ c := by
          rcases e' with z | z
          · rw [z]; exact Nat.le_add_right _ _
          · rw [z]; exact Nat.le_refl _
        exact I2.fpOk hle (I2.hok.fresh hle)

theorem walk_enumS {b : Bool} {K : PySem.W.Frag} {k : Int} {a : Addr} {xs : List V} : Walk (ItE b K k a) xs.length (fun H => SqB b K H a xs) (YPair (fun i => some (.int (k + (i : Nat)))) (fun i => xs[i]?)) := by
  refine ⟨fun i _ hi q => ⟨xs, xs[i], q, by simp [hi]⟩, fun _ q => ⟨xs, q, rfl⟩, fun i H v H' _ q y => ?_⟩
  obtain ⟨T, x, h1, h2, h3, h4⟩ := y
  exact ⟨T, .int (k + (i : Nat)), x, h1, h2, h3, rfl, h4 xs q⟩

/-- a, b = .. in a comprehension's block -/
theorem gK_tup {X : Cx} {K : PySem.W.Frag} (n : Nat) {es : List Expr} {k : Nat} {pos : Pos} {t : TGs} (e : X.K = K) (hc : X.calm = true) (h : PGs X es t)
    (hn : (assignEach es X.env).length = n := by rfl) (hst : (assignEach es X.env).findIdx? (·.1) = none := by rfl) : PG X (.Tuple es k pos) (gTup K n t) := e ▸ pg_tup hc h hn hst

/-! f'{number:>{width}}' -/
theorem formatField_small {prog : Program} {w : World} {A : Around} {E : Value → Shared → Prop} {s : Shared} {a : Int} {t : Tok} {spec : Str} {f : Builtin.Float.FormatSpec} {Q : Value → Shared → Prop}
    (hd : a.natAbs.log2 < 1920) (hlt : a.natAbs < 10 ^ 18)
    (hp : Builtin.Float.parseFormatSpec spec.cps.toList "int" 62 = .ok f)
    (hne : (spec.length == 0) = false)
    (hasc : ((spec.cps.toList.drop 1).any (· ≥ 128) || (spec.cps.getD 0 0 ≥ 128 && !([60, 62, 61, 94] : List Nat).contains (spec.cps.getD 1 0))) = false)
    (hg : intSpecGood spec f = true)
    (h : ∀ k k', Q (.str (intSpecText f a) k) { s with toks := k' }) (hsz : spec.length ≤ sizeLine) :
    wpAny (model prog w) A (formatField (.int a t) spec) Q E s := by
  unfold intSpecGood at hg
  simp only [Bool.and_eq_true] at hg
  obtain ⟨⟨⟨⟨⟨⟨hty, hpr⟩, hz⟩, hal⟩, hw⟩, hgr⟩, hsg⟩ := hg
  replace hty := beq_iff_eq.mp hty
  replace hpr := Option.isNone_iff_eq_none.mp hpr
  replace hz : f.noNeg0 = false := by simpa using hz
  replace hal : f.alt = false := by simpa using hal
  replace hw : f.width.getD 0 ≤ 100000 := by simpa using hw
  replace hgr := Option.isNone_iff_eq_none.mp hgr
  replace hsg := Option.isNone_iff_eq_none.mp hsg
  have hdig : (Nat.toDigits 10 a.natAbs).length ≤ 18 := digits10_le (by decide) hlt
  have hlen : (intSpecText f a).length ≤ sizeLine := by
    rw [intSpecText_length a hgr hsg, sizeLine_eq]
    clear hlt h
    split <;> omega
  show wpAny _ _ (holding [.int a t] (pyFormat (.int a t) spec)) Q E s
  refine wpAny_holding ?_
  unfold pyFormat
  refine wpAny_bind (wpAny_mkStr ?_ hsz)
  refine wpAny_bind (m := callSpecial? (.int a t) (Str.ofString "__format__") [.str spec s.toks]) (wpAny_callSpecial?_slot (name := Str.ofString "__format__") (typeIs_int _ a t) slot_int_format ?_)
  refine wpAny_call (codeAny_call_builtin slot_int_format.plain entry_int_format (slot_int_format.check _ _ _ _ _ _ _ _ (typeIs_int _ a t) (args_int_format _ _) ?_))
  unfold Builtin.«int.__format__»
  simp only [selfAndOne, noKeywords, Builtin.Int.intOfSelf, asInt?, asStr?, List.isEmpty_nil, if_true, pure_bind, bind_pure, bind_assoc, hne, hasc, Bool.false_eq_true, if_false,
    show (Value.str spec s.toks == Value.none) = false from rfl]
  refine wpAny_bind (wpAny_typeNameOf (T := "str") (typeIs_str _ _ _) (by decide) fun _ => ?_)
  first | refine wpAny_bind (wpAny_typeNameOfCut_int ?_) | refine wpAny_bind (wpAny_typeNameOf_int ?_)
  simp only [hp, hty]
  rw [if_pos (by decide)]
  show wpAny _ _ (if _ then _ else _) _ _ _
  rw [if_neg (by simp [hpr])]
  show wpAny _ _ (if _ then _ else _) _ _ _
  rw [if_neg (by simp [hz])]
  show wpAny _ _ (if _ then _ else _) _ _ _
  rw [if_neg (by decide)]
  show wpAny _ _ (do let r ← Builtin.overDigitLimit? a; _) _ _ _
  refine wpAny_bind (wpAny_of_eq (PySem.overDigitLimit_small hd) ?_)
  show wpAny _ _ (if _ then _ else _) _ _ _
  have hw' : ¬ (f.width.getD 0 > 100000) := by omega
  rw [if_neg (by simpa using hw')]
  show wpAny _ _ (retStr _) _ _ _
  unfold retStr
  refine wpAny_bind (wpAny_mkStr (wpAny_pure ?_) ?hs2)
  case hs2 =>
    simp only [hal, Bool.false_eq_true, if_false, show ((10 : Nat) == 10) = true by decide, if_true]
    conv => lhs; arg 1; whnf
    simp only [intSpecText, intField', hgr, hsg, hal, Bool.false_eq_true, if_false, show ((10 : Nat) == 10) = true by decide, if_true] at hlen ⊢
    exact hlen
  dsimp only
  refine wpAny_bind (wpAny_isInstance (typeIs_str _ _ _) isSubtype_str_str (wpAny_pure ?_))
  simp only [hal, Bool.false_eq_true, if_false, show ((10 : Nat) == 10) = true by decide, if_true]
  have h1 := h (s.toks + 1) (s.toks + 1 + 1)
  conv => arg 1; arg 1; whnf
  simp only [intSpecText, intField', hgr, hsg, hal, Bool.false_eq_true, if_false, show ((10 : Nat) == 10) = true by decide, if_true] at h1 ⊢
  exact h1

/-- an int of at most w figures, aligned to the right -/
def padL (w : Nat) (i : Int) : Str := ⟨(List.replicate (w - (Nat.toDigits 10 i.natAbs).length) 32 ++ (Nat.toDigits 10 i.natAbs).map Char.toNat).toArray⟩
theorem spec_text (w : Nat) {i : Int} (h0 : 0 ≤ i) : intSpecText { align := 62, width := some w } i = padL w i := by
  unfold intSpecText intField' padL
  have hd : ((Nat.toDigits 10 i.natAbs).map fun c => (if (100 : Nat) == 88 then c.toUpper else c).toNat).isEmpty = false := by
    have := tDigits_len_ge 10 i.natAbs
    cases h : Nat.toDigits 10 i.natAbs with
    | nil => rw [h] at this; simp at this
    | cons _ _ => rfl
  have hn : decide (i < 0) = false := decide_eq_false (by omega)
  simp only [hd, hn, Bool.false_eq_true, if_false, show ((62 : Nat) == 60) = false by decide, show ((62 : Nat) == 94) = false by decide, show ((62 : Nat) == 61) = false by decide, Bool.and_false, List.length_nil, List.length_map,
    show ((100 : Nat) == 88) = false by decide, List.append_nil, List.nil_append, List.replicate_zero, Nat.sub_zero, Int.toNat_zero, Nat.zero_sub]
  have hd' : (List.map (fun c : Char => c.toNat) (Nat.toDigits 10 i.natAbs)).isEmpty = false := by
    have := tDigits_len_ge 10 i.natAbs
    cases h : Nat.toDigits 10 i.natAbs with
    | nil => rw [h] at this; simp at this
    | cons _ _ => rfl
  simp only [hd', Bool.false_eq_true, if_false, List.length_map]
  rw [show ((w : Int) - (((0 : Nat) : Int) + ((0 : Nat) : Int) + ((0 : Nat) : Int)) - ((Nat.toDigits 10 i.natAbs).length : Int)).toNat = w - (Nat.toDigits 10 i.natAbs).length by omega]
/-- f'..' as one word -/
def tJoin (ts : List TE) : TE := fun σ H Q => tJs ts Str.empty σ H fun out H1 => Q (.str out) H1
theorem pe_join2 {X : Cx} {v1 v2 : Expr} {rest : List Expr} {ts : List TE} {pos : Pos} (h : PJ X (v1 :: v2 :: rest) ts) : PE X (.JoinedStr (v1 :: v2 :: rest) pos) (tJoin ts) := pe_joined h
def tFmtW (te ts : TE) : TE := fun σ H Q => te σ H fun x H1 => ts σ H1 fun y H2 => ∃ (i : Int) (w : Nat), x = .int i ∧ y = .str ((">" : Str) ++ Str.ofString (toString (w : Int))) ∧ 1 ≤ w ∧ w ≤ 9 ∧ 0 ≤ i ∧ i < 10 ^ 18 ∧ Q (.str (padL w i)) H2
theorem pe_fmtW {X : Cx} {e sp : Expr} {te ts : TE} {pos : Pos} (he : PE X e te) (hs : PE X sp ts) : PE X (.FormattedValue e (-1) (some sp) pos) (tFmtW te ts) := by
  refine ⟨fun pins s σ H Q I h => ?_⟩
  refine wpAny_FormattedValue_spec (thn (he.run pins s σ H _ I h) fun v s1 ⟨x, H1, I1, r1, q1⟩ => thn (hs.run pins s1 σ H1 _ I1 q1) fun u s2 ⟨y, H2, I2, r2, q2⟩ => ?_)
  obtain ⟨i, w, rfl, rfl, w1, w9, i0, i1, q⟩ := q2
  obtain ⟨t1, rfl⟩ := r1
  obtain ⟨t2, rfl⟩ := r2
  refine ⟨_, t2, rfl, ?_⟩
  have hl : i.natAbs.log2 < 1920 := by
    by_cases h0 : i.natAbs = 0
    · rw [h0]; decide
    · exact (Nat.log2_lt h0).2 (Nat.lt_of_lt_of_le (show i.natAbs < 10 ^ 18 by omega) (by decide +kernel))
  have e : ((w = 1 ∨ w = 2 ∨ w = 3) ∨ (w = 4 ∨ w = 5 ∨ w = 6)) ∨ (w = 7 ∨ w = 8 ∨ w = 9) := by omega
  have fin : ∀ k k', ∃ x H1, Inv X pins σ H1 { s2 with toks := k' } ∧ RelV x (.str (intSpecText { align := 62, width := some w } i) k) ∧ Q x H1 := fun k k' => by
    rw [spec_text w i0]
    exact ⟨.str (padL w i), H2, I2.tok _, ⟨_, rfl⟩, q⟩
  rcases e with (e | e) | e <;> rcases e with e | e | e <;> subst e <;>
    exact formatField_small hl (by omega) (by kernel_rfl) (by decide +kernel) (by decide +kernel) (by decide +kernel) fin (by decide +kernel)
end Sl
namespace Sl
open PySem PySem.Spec PyProof.Rows L2
local macro_rules | `(tactic| walk_at "nin") => `(tactic| first | assumption | exact List.not_mem_nil | (simp only [List.mem_cons, List.not_mem_nil, not_or, or_false, not_false_eq_true, and_true]; first | assumption | walk_at "ne" | (refine ⟨?_, ?_⟩ <;> walk_at "ne") | (refine ⟨?_, ?_, ?_⟩ <;> walk_at "ne")))
local macro_rules | `(tactic| walk_at "ne") => `(tactic| first | assumption | exact Ne.symm (by assumption) | (refine Fr.ne ?_ ?_ <;> first | assumption | walk_at "hp") | (refine Ne.symm (Fr.ne ?_ ?_) <;> first | assumption | walk_at "hp"))
local macro_rules | `(tactic| walk_at "hp") => `(tactic| first
  | assumption
  | exact upd_same
  | (refine Eq.trans (upd_ne ?_) ?_ <;> first | walk_at "hp" | walk_at "ne")
  | (refine Kp.get (by assumption) ?_ ?_ <;> first | walk_at "hp" | exact .inr rfl | exact .inl List.not_mem_nil | (refine .inl ?_; walk_at "nin")))
local macro_rules | `(tactic| walk_at "sl") => `(tactic| first | assumption | (refine .inl (.inl ?_); walk_at "hp") | (refine Kp.sqL (by assumption) ?_ ?_ <;> first | walk_at "sl" | walk_at "nin") | (refine Kp.sqL (Kp.new (by assumption)) (A := []) List.not_mem_nil ?_; walk_at "sl"))
local macro_rules | `(tactic| walk_at "rd") => `(tactic| first
  | refine ⟨_, rfl, ?_⟩
  | refine ⟨_, _, rfl, rfl, ?_⟩
  | refine ⟨_, _, rfl, rfl, (by first | decide | omega), ?_⟩
  | refine .inl ⟨_, rfl, ?_⟩
  | refine ⟨rfl, ?_⟩
  | refine ⟨_, _, _, _, rfl, rfl, (by walk_at "sl"), rfl, ?_⟩)
local macro_rules | `(tactic| walk_at "rds") => `(tactic| repeat (walk_at "rd"))
local macro_rules | `(tactic| walk_at "vl") => `(tactic| first
  | exact vl_c
  | exact vl_var rfl
  | (refine' vl_op ?h1 ?h2 ?h3; (case h1 => walk_at "vl"); (case h2 => walk_at "vl"); (case h3 => walk_at "rl"))
  | (refine' vl_un ?h1 ?h3; (case h1 => walk_at "vl"); (case h3 => walk_at "rl"))
  | (refine' vl_cb1 ?h1 ?h3; (case h1 => walk_at "vl"); (case h3 => walk_at "rl"))
  | (refine' vl_cb2 ?h1 ?h2 ?h3; (case h1 => walk_at "vl"); (case h2 => walk_at "vl"); (case h3 => walk_at "rl"))
  | (refine' vl_not ?h1; (case h1 => walk_at "vl"))
  | (refine' vl_andV ?h1 ?h2; (case h1 => walk_at "vl"); (case h2 => intro _; walk_at "vl"))
  | (refine' vl_orV ?h1 ?h2; (case h1 => walk_at "vl"); (case h2 => intro _; walk_at "vl"))
  | (refine' vl_chain ?h1 ?h2 ?h3 ?h4 ?h5; (case h1 => walk_at "vl"); (case h2 => walk_at "vl"); (case h4 => walk_at "rl"); (case h3 => intro _; walk_at "vl"); (case h5 => intro _; walk_at "rl")))
local macro_rules | `(tactic| walk_at "rl") => `(tactic| (intro Q' q'; first
  | exact ⟨_, _, rfl, rfl, q'⟩
  | exact ⟨rfl, q'⟩
  | exact ⟨_, rfl, q'⟩
  | exact .inl ⟨_, rfl, q'⟩
  | exact ⟨_, _, _, _, rfl, rfl, (by assumption), rfl, q'⟩
  | exact ⟨_, _, rfl, .inr ⟨_, by assumption, rfl⟩, q'⟩
  | exact ⟨_, _, rfl, .inl ⟨_, by assumption, rfl⟩, q'⟩
  | exact ⟨_, rfl, (by first | assumption | exact sz (by assumption) | exact sz (by omega)), q'⟩
  | exact ⟨_, _, rfl, rfl, (by first | assumption | exact ⟨by omega, by omega⟩ | (show (0 : Int) < _; omega) | exact .inl ⟨by omega, by omega⟩ | exact .inr ⟨by omega, by omega⟩), q'⟩))
local macro_rules | `(tactic| walk_at "an") => `(tactic| first
  | (refine' an_and ?h1 ?h2; (case h1 => walk_at "an"); (case h2 => intro _; walk_at "an"))
  | (refine' an_or ?h1 ?h2; (case h1 => walk_at "an"); (case h2 => intro _; walk_at "an"))
  | (refine' an_not ?h1; (case h1 => walk_at "an"))
  | (refine' an_cmp ?h1 ?h2 ?h3; (case h1 => walk_at "vl"); (case h2 => walk_at "vl"); (case h3 => walk_at "rl"))
  | (refine' an_val ?h1; (case h1 => walk_at "vl"))
  | (refine' an_test ?h1; (case h1 => walk_at "vl")))
local macro_rules | `(tactic| walk_at "if") => `(tactic| ((try refine gnK ?_); (first | refine' seq_if0 ?h ?k1 ?k2 | refine' seq_if ?h ?k1 ?k2 | refine' if_an ?h ?k1 ?k2); (case h => walk_at "an")))
local macro_rules | `(tactic| walk_at "st") => `(tactic| ((try refine gnK ?_); first | refine seq_setK ?_ | refine setK ?_ | refine seq_dropK ?_ | refine dropK' ?_ | refine seq_ifK0 ?_ | refine seq_ifK ?_ | refine if_anK ?_ | refine retK ?_ | refine nextK ?_))
local macro_rules | `(tactic| walk_at "set") => `(tactic| (refine' seq_set ?h ?k; (case h => walk_at "vl")))
/-! ### plain and full names -/
def isLet (c : Nat) : Bool := decide (97 ≤ c) && decide (c ≤ 122)
def isDig (c : Nat) : Bool := decide (48 ≤ c) && decide (c ≤ 57)
theorem mem_let (c : Nat) : decide (c ∈ ("abcdefghijklmnopqrstuvwxyz" : Str).cps.toList) = isLet c := by
  have e : ("abcdefghijklmnopqrstuvwxyz" : Str).cps.toList = [97, 98, 99, 100, 101, 102, 103, 104, 105, 106, 107, 108, 109, 110, 111, 112, 113, 114, 115, 116, 117, 118, 119, 120, 121, 122] := by decide +kernel
  rw [e, isLet, ← Bool.decide_and, decide_eq_decide]
  simp only [List.mem_cons, List.not_mem_nil, or_false]
  omega
theorem mem_dig (c : Nat) : decide (c ∈ ("0123456789" : Str).cps.toList) = isDig c := by
  have e : ("0123456789" : Str).cps.toList = [48, 49, 50, 51, 52, 53, 54, 55, 56, 57] := by decide +kernel
  rw [e, isDig, ← Bool.decide_and, decide_eq_decide]
  simp only [List.mem_cons, List.not_mem_nil, or_false]
  omega
theorem dig_let {c : Nat} (h : isDig c = true) : isLet c = false := by
  simp only [isDig, isLet, Bool.and_eq_true, decide_eq_true_eq, Bool.and_eq_false_iff, decide_eq_false_iff_not] at *
  omega
def nameL : List Nat → Bool
  | [] => false
  | c :: r => isLet c && ((c :: r).all (fun c => isLet c || isDig c) && decide ((c :: r).length ≤ 8))
def isName (s : Str) : Bool := nameL (TL.tl s)
theorem isName_len {s : Str} (h : isName s = true) : 1 ≤ s.length ∧ s.length ≤ 8 := by
  unfold isName at h
  rw [TL.len_tl]
  cases e : TL.tl s with
  | nil => rw [e] at h; cases h
  | cons c r =>
    rw [e] at h
    simp only [nameL, Bool.and_eq_true, decide_eq_true_eq] at h
    exact ⟨by simp, h.2.2⟩
theorem isName_at {s : Str} {c : Nat} (h : s.cps[0]? = some c) (hl : s.length ≤ 8) : isName s = (isLet c && (TL.tl s).all (fun c => isLet c || isDig c)) := by
  unfold isName
  rw [TL.len_tl] at hl
  have h' : (TL.tl s)[0]? = some c := by rw [← h]; simp [TL.tl]
  cases e : TL.tl s with
  | nil => rw [e] at h'; cases h'
  | cons d r =>
    rw [e] at h' hl
    cases h'
    simp only [nameL, decide_eq_true hl, Bool.and_true]
theorem isName_no {s : Str} (h : ¬ (1 ≤ s.length ∧ s.length ≤ 8)) : isName s = false := by
  cases e : isName s with
  | false => rfl
  | true => exact absurd (isName_len e) h
theorem asB {Q : VK} {b b' : Bool} {H : Hp} (q : Q (.bl b) H) (e : b = b') : Q (.bl b') H := e ▸ q
theorem atS {s : Str} {i : Nat} (h : i < s.length) : ∃ c, s.cps[i]? = some c ∧ atI s.cps.toList (i : Int) = some c := by
  have h' : i < s.cps.size := h
  refine ⟨s.cps[i], by simp [h'], atI_nat (by simp [h'])⟩
theorem all_false {p : Nat → Bool} {s : Str} {i : Nat} {c : Nat} (h : s.cps[i]? = some c) (hp : p c = false) : (TL.tl s).all p = false := by
  have h' : (TL.tl s)[i]? = some c := by rw [← h]; simp [TL.tl]
  cases e : (TL.tl s).all p with
  | false => rfl
  | true =>
    rw [List.all_eq_true] at e
    have := e c (List.mem_of_getElem? h')
    rw [hp] at this; cases this
theorem all_true {p : Nat → Bool} {s : Str} (h : ∀ (j c : Nat), s.cps[j]? = some c → p c = true) : (TL.tl s).all p = true := by
  rw [List.all_eq_true]
  intro c hc
  obtain ⟨j, hj⟩ := List.mem_iff_getElem?.mp hc
  exact h j c (by rw [← hj]; simp [TL.tl])
/-- the pieces of a text are no longer than it -/
theorem spl_short (S : List Nat) : ∀ (k : Nat) (acc l : List Nat), ∀ p ∈ TL.spl S k acc l, p.length ≤ acc.length + l.length
  | k, acc, [], p, h => by
    rw [TL.spl_nil] at h
    rw [List.mem_singleton.mp h]
    simp
  | 0, acc, c :: r, p, h => by
    unfold TL.spl at h
    split at h
    · rcases List.mem_cons.mp h with e | e
      · rw [e]; omega
      · have := spl_short S _ [] r p e
        simp at this ⊢; omega
    · have := spl_short S 0 (acc ++ [c]) r p h
      simp at this ⊢; omega
  | k + 1, acc, c :: r, p, h => by
    unfold TL.spl at h
    have := spl_short S k acc r p h
    simp at this ⊢; omega
theorem dot_tl : TL.tl ("." : Str) = [46] := by decide +kernel
theorem kind_dot (x : Str) : ¬ Builtin.Str.strKind x < Builtin.Str.strKind ("." : Str) := TL.kind_ok (by decide +kernel)
theorem split_short {s p : Str} (h : p ∈ Txt.split s ".") : p.length ≤ s.length := by
  have e := TL.split_spl s "." (by rw [dot_tl]; simp) (kind_dot s)
  have hp : TL.tl p ∈ TL.spl (TL.tl ".") 0 [] (TL.tl s) := by rw [← e]; exact List.mem_map_of_mem h
  have := spl_short _ _ _ _ _ hp
  rw [TL.len_tl, TL.len_tl]
  simpa using this
theorem split_join_dot {parts : List Str} (hne : parts ≠ []) (hp : ∀ p ∈ parts, 46 ∉ TL.tl p) : Txt.split (Txt.join "." parts) "." = parts :=
  TL.split_join dot_tl (by decide +kernel) hne hp
def isFull (s : Str) : Bool := (Txt.split s ".").all isName
theorem join_dot {ps : List Str} : TL.tl (Txt.join "." ps) = TL.joinL [46] (ps.map TL.tl) := by
  rw [TL.join_eq, TL.tl_join, dot_tl]
theorem joinL_short : ∀ (ls : List (List Nat)), (∀ l ∈ ls, l.length ≤ 9) → (TL.joinL [46] ls).length ≤ 10 * ls.length
  | [], _ => by simp [TL.joinL]
  | [p], h => by have := h p (List.mem_cons_self ..); simp [TL.joinL]; omega
  | p :: q :: r, h => by
    have h1 := h p (List.mem_cons_self ..)
    have ih := joinL_short (q :: r) fun l hl => h l (List.mem_cons_of_mem _ hl)
    simp only [TL.joinL, List.length_append, List.length_cons, List.length_nil] at ih ⊢
    omega
theorem join_short {ps : List Str} (h : ∀ s ∈ ps, s.length ≤ 9) : (Txt.join "." ps).length ≤ 10 * ps.length := by
  rw [TL.len_tl, join_dot]
  have := joinL_short (ps.map TL.tl) fun l hl => by
    obtain ⟨s, hs, rfl⟩ := List.mem_map.mp hl
    rw [← TL.len_tl]; exact h s hs
  simpa using this
theorem sum_short {ps : List Str} (h : ∀ s ∈ ps, s.length ≤ 9) : (ps.map (·.length)).sum ≤ 9 * ps.length := by
  induction ps with
  | nil => simp
  | cons p ps ih =>
    have h1 := h p (List.mem_cons_self ..)
    have h2 := ih fun s hs => h s (List.mem_cons_of_mem _ hs)
    simp only [List.map_cons, List.sum_cons, List.length_cons]
    omega
theorem isFull_join {ps : List Str} (hne : ps ≠ []) (h : ∀ s ∈ ps, 46 ∉ TL.tl s) : isFull (Txt.join "." ps) = ps.all isName := by
  unfold isFull
  rw [split_join_dot hne h]
theorem isName_join {ps : List Str} (hne : ps ≠ []) (h : ∀ s ∈ ps, 46 ∉ TL.tl s) : isName (Txt.join "." ps) = (ps.all isName && decide ((ps.length : Int) = 1)) := by
  match ps, hne with
  | [p], _ =>
    have e : Txt.join "." [p] = p := TL.ext_tl (by rw [join_dot]; rfl)
    rw [e]; simp
  | p :: q :: r, _ =>
    have hl : ¬ (((p :: q :: r).length : Nat) : Int) = 1 := by simp only [List.length_cons]; omega
    rw [decide_eq_false hl, Bool.and_false]
    unfold isName
    have hm : 46 ∈ TL.tl (Txt.join "." (p :: q :: r)) := by
      rw [join_dot]
      simp only [List.map_cons, TL.joinL, List.mem_append]
      exact .inr (.inl (by simp))
    cases e : TL.tl (Txt.join "." (p :: q :: r)) with
    | nil => rfl
    | cons x t =>
      rw [e] at hm
      have : (x :: t).all (fun c => isLet c || isDig c) = false := by
        cases z : (x :: t).all (fun c => isLet c || isDig c) with
        | false => rfl
        | true => have := List.all_eq_true.mp z 46 hm; revert this; decide
      simp only [nameL, this, Bool.false_and, Bool.and_false]
open PySem.NumText (digitsVal AllDigits)
def stripM : List Nat → List Nat
  | 45 :: r => r
  | l => l
theorem stripM_minus {r : List Nat} : stripM (45 :: r) = r := rfl
theorem stripM_other : ∀ {l : List Nat}, (∀ r, l ≠ 45 :: r) → stripM l = l
  | [], _ => rfl
  | c :: r, h => by
    have : c ≠ 45 := fun e => h r (by rw [e])
    unfold stripM
    split
    · rename_i e; cases e; exact absurd rfl this
    · rfl
def isNumL (l : List Nat) : Bool := !(stripM l).isEmpty && ((stripM l).all isDig && !((stripM l).head? == some 48 && !(l == [48])))
def valL (l : List Nat) : Int := if l.head? = some 45 then -((digitsVal (stripM l) : Nat) : Int) else ((digitsVal (stripM l) : Nat) : Int)
theorem tl_minus : TL.tl ("-" : Str) = [45] := by decide +kernel
theorem subAt_minus {x : Str} : Builtin.Str.subAt x "-" 0 = true ↔ ∃ r, TL.tl x = 45 :: r := by
  unfold Builtin.Str.subAt
  rw [beq_iff_eq]
  have e : ∀ a : Array Nat, (a = ("-" : Str).cps ↔ a.toList = [45]) := fun a => by
    constructor
    · intro h; rw [h]; exact tl_minus
    · intro h; exact Array.toList_inj.mp (h.trans tl_minus.symm)
  rw [e]
  show _ ↔ ∃ r, x.cps.toList = 45 :: r
  have l1 : ("-" : Str).length = 1 := by decide +kernel
  rw [l1]
  constructor
  · intro h
    have h' : (x.cps.toList.drop 0).take 1 = [45] := by
      rw [← h]
      simp [Array.toList_extract, List.extract_eq_take_drop]
    cases hx : x.cps.toList with
    | nil => rw [hx] at h'; simp at h'
    | cons c r =>
      rw [hx] at h'
      simp at h'
      exact ⟨r, by rw [h']⟩
  · rintro ⟨r, h⟩
    simp [Array.toList_extract, List.extract_eq_take_drop, h]
theorem tl_strip (x : Str) : TL.tl (Txt.removeprefix x "-") = stripM (TL.tl x) := by
  have l1 : ("-" : Str).length = 1 := by decide +kernel
  rw [StrLaws.removeprefix_eq, l1]
  by_cases h : Builtin.Str.subAt x "-" 0 = true
  · obtain ⟨r, hr⟩ := subAt_minus.mp h
    have hl : x.length = r.length + 1 := by rw [TL.len_tl, hr]; rfl
    rw [if_pos (by rw [h, decide_eq_true (by omega)]; rfl), hr, stripM_minus]
    have hr' : x.cps.toList = 45 :: r := hr
    show (((x.cps.toList.drop 1).take (x.length - 1)).toArray).toList = r
    rw [hr']
    simp [hl]
  · rw [if_neg (by simp [h])]
    exact (stripM_other fun r e => h (subAt_minus.mpr ⟨r, e⟩)).symm
theorem dig_iff {l : List Nat} : l.all isDig = true ↔ AllDigits l := by
  rw [List.all_eq_true]
  exact forall_congr' fun c => forall_congr' fun _ => by simp [isDig]
/-- int(s) of such a text -/
theorem int_num {s : Str} (h : isNumL (TL.tl s) = true) (hl : s.length ≤ 600) : PySem.intText? s = some (valL (TL.tl s)) := by
  unfold isNumL at h
  simp only [Bool.and_eq_true, Bool.not_eq_true', List.isEmpty_eq_false_iff] at h
  obtain ⟨h1, h2, _⟩ := h
  rw [dig_iff] at h2
  unfold valL
  by_cases m : ∃ r, TL.tl s = 45 :: r
  · obtain ⟨r, hr⟩ := m
    rw [hr, stripM_minus] at h1 h2 ⊢
    rw [if_pos (show (45 :: r).head? = some 45 from rfl)]
    exact intText_neg hr h2 h1 (by omega)
  · have hs : stripM (TL.tl s) = TL.tl s := stripM_other fun r e => m ⟨r, e⟩
    rw [hs] at h1 h2 ⊢
    rw [if_neg fun e => m ?_]
    · exact intText_digits h2 h1 (by omega)
    · cases q : TL.tl s with
      | nil => rw [q] at e; cases e
      | cons c r =>
        rw [q] at e
        have : c = 45 := by simpa using e
        exact ⟨r, by rw [this]⟩
theorem num_last {l : List Nat} {c : Nat} {r : List Nat} (h : stripM l = c :: r) (ne : l ≠ [45, 48]) : (decide (c :: r = [48]) || !decide (c = 48)) = !((c :: r).head? == some 48 && !(l == [48])) := by
  have key : l = [48] ↔ c :: r = [48] := by
    constructor
    · rintro rfl
      rw [← h]; rfl
    · intro e
      rw [e] at h
      by_cases m : ∃ t, l = 45 :: t
      · obtain ⟨t, rfl⟩ := m
        rw [stripM_minus] at h
        rw [h] at ne
        exact absurd rfl ne
      · rw [stripM_other fun t e => m ⟨t, e⟩] at h
        exact h
  have e1 : (l == [48]) = decide (c :: r = [48]) := by
    rw [← Bool.coe_iff_coe]
    simp only [beq_iff_eq, decide_eq_true_eq]
    exact key
  rw [e1]
  by_cases h1 : c = 48
  · subst h1
    cases r <;> simp
  · simp [h1]
theorem tl_cut_head (z : Str) : TL.tl (cutS z none (some 1)) = (TL.tl z).take 1 := by
  unfold cutS
  have h1 : HT.sIx z.length z.length (some ((1 : Nat) : Int)) = min 1 z.length := HT.sIx_nat _ _ _
  have h2 : HT.sIx z.length z.length (some (1 : Int)) = min 1 z.length := h1
  rw [h2, HT.sIx_none]
  show (z.cps.toList.drop 0).take (min 1 z.length - 0) = z.cps.toList.take 1
  rw [List.drop_zero, Nat.sub_zero]
  have e : z.length = z.cps.toList.length := TL.len_tl z
  cases h : z.cps.toList with
  | nil => simp
  | cons c r => rw [e, h]; simp
theorem tl_cut_tail (z : Str) : TL.tl (cutS z (some 1) none) = (TL.tl z).drop 1 := by
  unfold cutS
  have h1 : HT.sIx z.length 0 (some ((1 : Nat) : Int)) = min 1 z.length := HT.sIx_nat _ _ _
  have h2 : HT.sIx z.length 0 (some (1 : Int)) = min 1 z.length := h1
  rw [h2, HT.sIx_none]
  show (z.cps.toList.drop (min 1 z.length)).take (z.length - min 1 z.length) = z.cps.toList.drop 1
  have e : z.length = z.cps.toList.length := TL.len_tl z
  cases h : z.cps.toList with
  | nil => simp
  | cons c r => rw [e, h]; simp
theorem index_dig {c : Nat} (h : isDig c = true) : Txt.index0 "0123456789" ⟨#[c]⟩ = some (c - 48) := by
  simp only [isDig, Bool.and_eq_true, decide_eq_true_eq] at h
  obtain ⟨h1, h2⟩ := h
  have : c = 48 ∨ c = 49 ∨ c = 50 ∨ c = 51 ∨ c = 52 ∨ c = 53 ∨ c = 54 ∨ c = 55 ∨ c = 56 ∨ c = 57 := by omega
  rcases this with rfl | rfl | rfl | rfl | rfl | rfl | rfl | rfl | rfl | rfl <;> decide +kernel
theorem mem_ld (c : Nat) : decide (c ∈ ("abcdefghijklmnopqrstuvwxyz0123456789" : Str).cps.toList) = (isLet c || isDig c) := by
  have e : ("abcdefghijklmnopqrstuvwxyz0123456789" : Str).cps.toList = ("abcdefghijklmnopqrstuvwxyz" : Str).cps.toList ++ ("0123456789" : Str).cps.toList := by decide +kernel
  rw [e, ← mem_let, ← mem_dig, ← Bool.decide_or, decide_eq_decide, List.mem_append]
def topS (i : Nat) : Stmt := PySem.Challenge.pw_shadowlinks_k03_numbers_and_names_in_tex.main.body.getD i (.Pass ⟨0, 0, 0, 0⟩)
def clsB : Stmt → List Stmt
  | .ClassDef (body := b) .. => b
  | _ => []
def topM (i j : Nat) : Stmt := (clsB (topS i)).getD j (.Pass ⟨0, 0, 0, 0⟩)
abbrev N_InvalidName___init__ : List Str := ["self", "name"]
theorem sc_InvalidName___init__ : FnScope N_InvalidName___init__ ["self", "name"] (defScope (topM 2 0)) := ⟨rfl, rfl, rfl, by decide +kernel, rfl, by decide +kernel, by decide +kernel⟩
abbrev N_InvalidText___init__ : List Str := ["self", "line"]
theorem sc_InvalidText___init__ : FnScope N_InvalidText___init__ ["self", "line"] (defScope (topM 3 0)) := ⟨rfl, rfl, rfl, by decide +kernel, rfl, by decide +kernel, by decide +kernel⟩
abbrev N_is_name : List Str := ["text", "char"]
theorem sc_is_name : FnScope N_is_name ["text"] (defScope (topS 7)) := ⟨rfl, rfl, rfl, by decide +kernel, rfl, by decide +kernel, by decide +kernel⟩
abbrev N_is_full_name : List Str := ["text", "piece"]
theorem sc_is_full_name : FnScope N_is_full_name ["text"] (defScope (topS 8)) := ⟨rfl, rfl, rfl, by decide +kernel, rfl, by decide +kernel, by decide +kernel⟩
abbrev N_is_number : List Str := ["text", "digits", "char"]
theorem sc_is_number : FnScope N_is_number ["text"] (defScope (topS 10)) := ⟨rfl, rfl, rfl, by decide +kernel, rfl, by decide +kernel, by decide +kernel⟩
abbrev N_parse_number : List Str := ["text", "line"]
theorem sc_parse_number : FnScope N_parse_number ["text", "line"] (defScope (topS 11)) := ⟨rfl, rfl, rfl, by decide +kernel, rfl, by decide +kernel, by decide +kernel⟩
abbrev N_number_lines : List Str := ["lines", "first", "width", "number", "text"]
theorem sc_number_lines : FnScope N_number_lines ["lines", "first"] (defScope (topS 12)) := ⟨rfl, rfl, rfl, by decide +kernel, rfl, by decide +kernel, by decide +kernel⟩
abbrev N_parse_names : List Str := ["words", "line", "k"]
theorem sc_parse_names : FnScope N_parse_names ["words", "line"] (defScope (topS 14)) := ⟨rfl, rfl, rfl, by decide +kernel, rfl, by decide +kernel, by decide +kernel⟩
abbrev N__law_source : List Str := ["_law_script", "_law_k", "_law_number_here"]
theorem sc__law_source : FnScope N__law_source ["_law_script", "_law_k"] (defScope (topS 16)) := ⟨rfl, rfl, rfl, by decide +kernel, rfl, by decide +kernel, by decide +kernel⟩
abbrev N__law_draw : List Str := ["_law_source_here", "_law_limit", "_law_number_here", "_law_mixed"]
theorem sc__law_draw : FnScope N__law_draw ["_law_source_here", "_law_limit"] (defScope (topS 17)) := ⟨rfl, rfl, rfl, by decide +kernel, rfl, by decide +kernel, by decide +kernel⟩
abbrev N__law_string : List Str := ["_law_source_here", "_law_choice", "_law_number_here", "_law_text", "_law_k"]
theorem sc__law_string : FnScope N__law_string ["_law_source_here"] (defScope (topS 18)) := ⟨rfl, rfl, rfl, by decide +kernel, rfl, by decide +kernel, by decide +kernel⟩
abbrev N__law_integer : List Str := ["_law_text", "_law_digits", "_law_char", "_law_number_here"]
theorem sc__law_integer : FnScope N__law_integer ["_law_text"] (defScope (topS 19)) := ⟨rfl, rfl, rfl, by decide +kernel, rfl, by decide +kernel, by decide +kernel⟩
abbrev N__law_number : List Str := ["_law_text", "_law_at", "e"]
theorem sc__law_number : FnScope N__law_number ["_law_text", "_law_at"] (defScope (topS 20)) := ⟨rfl, rfl, rfl, by decide +kernel, rfl, by decide +kernel, by decide +kernel⟩
abbrev N__law_number_right : List Str := ["_law_source_here", "_law_text", "_law_at", "_law_expected", "_law_told", "_law_actual"]
theorem sc__law_number_right : FnScope N__law_number_right ["_law_source_here"] (defScope (topS 21)) := ⟨rfl, rfl, rfl, by decide +kernel, rfl, by decide +kernel, by decide +kernel⟩
abbrev N__law_words : List Str := ["_law_source_here", "_law_words_here", "_law_k", "_law_pieces", "_law_j", "_law_piece", "_law_i", "_law_word"]
theorem sc__law_words : FnScope N__law_words ["_law_source_here"] (defScope (topS 22)) := ⟨rfl, rfl, rfl, by decide +kernel, rfl, by decide +kernel, by decide +kernel⟩
abbrev N__law_is_name : List Str := ["_law_word", "_law_piece", "_law_char"]
theorem sc__law_is_name : FnScope N__law_is_name ["_law_word"] (defScope (topS 23)) := ⟨rfl, rfl, rfl, by decide +kernel, rfl, by decide +kernel, by decide +kernel⟩
abbrev N__law_names : List Str := ["_law_words_here", "_law_at", "e"]
theorem sc__law_names : FnScope N__law_names ["_law_words_here", "_law_at"] (defScope (topS 24)) := ⟨rfl, rfl, rfl, by decide +kernel, rfl, by decide +kernel, by decide +kernel⟩
abbrev N__law_names_right : List Str := ["_law_source_here", "_law_words_here", "_law_at", "_law_good", "_law_k", "_law_passed", "_law_actual"]
theorem sc__law_names_right : FnScope N__law_names_right ["_law_source_here"] (defScope (topS 25)) := ⟨rfl, rfl, rfl, by decide +kernel, rfl, by decide +kernel, by decide +kernel⟩
abbrev N__law_numbered_right : List Str := ["_law_source_here", "_law_k", "_law_lines", "_law_start", "_law_last", "_law_expected", "_law_number_here", "_law_passed", "_law_actual"]
theorem sc__law_numbered_right : FnScope N__law_numbered_right ["_law_source_here"] (defScope (topS 26)) := ⟨rfl, rfl, rfl, by decide +kernel, rfl, by decide +kernel, by decide +kernel⟩
abbrev N_law : List Str := ["_law_script", "_law_k"]
theorem sc_law : FnScope N_law ["_law_script"] (defScope (topS 27)) := ⟨rfl, rfl, rfl, by decide +kernel, rfl, by decide +kernel, by decide +kernel⟩
structure Txt (K : PySem.W.Frag) (mg : Str → Option Value) (A : Nat → Addr) (D : Nat → FuncData) : Prop where
  g_ShadowError : mg "ShadowError" = some (.ref (A 1))
  g_InvalidName : mg "InvalidName" = some (.ref (A 2))
  E_InvalidName : ErrK K mg "InvalidName" "name" (A 2) (A 1040) "InvalidName.__init__" (topM 2 0) (D 1040)
  x_InvalidName_ShadowError : PySem.W.exmOne K (.ref (A 2)) (.ref (A 1)) = some true
  k_InvalidName_ShadowError : PySem.W.kitOne K (.ref (A 2)) (.ref (A 1)) = some true
  x_InvalidName_InvalidName : PySem.W.exmOne K (.ref (A 2)) (.ref (A 2)) = some true
  k_InvalidName_InvalidName : PySem.W.kitOne K (.ref (A 2)) (.ref (A 2)) = some true
  x_InvalidName_InvalidText : PySem.W.exmOne K (.ref (A 2)) (.ref (A 3)) = some false
  k_InvalidName_InvalidText : PySem.W.kitOne K (.ref (A 2)) (.ref (A 3)) = some false
  S_InvalidName : SeI K (A 1) (.type "type")
  g_InvalidText : mg "InvalidText" = some (.ref (A 3))
  E_InvalidText : ErrK K mg "InvalidText" "line" (A 3) (A 1060) "InvalidText.__init__" (topM 3 0) (D 1060)
  x_InvalidText_ShadowError : PySem.W.exmOne K (.ref (A 3)) (.ref (A 1)) = some true
  k_InvalidText_ShadowError : PySem.W.kitOne K (.ref (A 3)) (.ref (A 1)) = some true
  x_InvalidText_InvalidName : PySem.W.exmOne K (.ref (A 3)) (.ref (A 2)) = some false
  k_InvalidText_InvalidName : PySem.W.kitOne K (.ref (A 3)) (.ref (A 2)) = some false
  x_InvalidText_InvalidText : PySem.W.exmOne K (.ref (A 3)) (.ref (A 3)) = some true
  k_InvalidText_InvalidText : PySem.W.kitOne K (.ref (A 3)) (.ref (A 3)) = some true
  S_InvalidText : SeI K (A 1) (.type "type")
  F_is_name : Fun K "is_name" "is_name" (topS 7) (A 7) (D 7)
  g_is_name : mg "is_name" = some (.ref (A 7))
  b_is_name : Binds K (D 7) ["text"] []
  F_is_full_name : Fun K "is_full_name" "is_full_name" (topS 8) (A 8) (D 8)
  g_is_full_name : mg "is_full_name" = some (.ref (A 8))
  b_is_full_name : Binds K (D 8) ["text"] []
  F_is_number : Fun K "is_number" "is_number" (topS 10) (A 10) (D 10)
  g_is_number : mg "is_number" = some (.ref (A 10))
  b_is_number : Binds K (D 10) ["text"] []
  F_parse_number : FunD K "parse_number" "parse_number" (defArgs (topS 11)) (defBody (topS 11)) (defScope (topS 11)) [] [("line", V.int 1)] (A 11) (D 11)
  g_parse_number : mg "parse_number" = some (.ref (A 11))
  b_parse_number : ∃ ds, Vals [V.int 1] ds ∧ Binds K (D 11) ["text", "line"] ds
  kn_parse_number : KBn K (D 11) ["text", "line"] 1 ["line"] (fun us ws => us ++ ws) (fun vs zs => vs ++ zs)
  F_number_lines : FunD K "number_lines" "number_lines" (defArgs (topS 12)) (defBody (topS 12)) (defScope (topS 12)) [] [("first", V.int 1)] (A 12) (D 12)
  g_number_lines : mg "number_lines" = some (.ref (A 12))
  b_number_lines : ∃ ds, Vals [V.int 1] ds ∧ Binds K (D 12) ["lines", "first"] ds
  kn_number_lines : KBn K (D 12) ["lines", "first"] 1 ["first"] (fun us ws => us ++ ws) (fun vs zs => vs ++ zs)
  F_parse_names : FunD K "parse_names" "parse_names" (defArgs (topS 14)) (defBody (topS 14)) (defScope (topS 14)) [] [("line", V.int 1)] (A 14) (D 14)
  g_parse_names : mg "parse_names" = some (.ref (A 14))
  b_parse_names : ∃ ds, Vals [V.int 1] ds ∧ Binds K (D 14) ["words", "line"] ds
  kn_parse_names : KBn K (D 14) ["words", "line"] 1 ["line"] (fun us ws => us ++ ws) (fun vs zs => vs ++ zs)
  F__law_source : Fun K "_law_source" "_law_source" (topS 16) (A 16) (D 16)
  g__law_source : mg "_law_source" = some (.ref (A 16))
  b__law_source : Binds K (D 16) ["_law_script", "_law_k"] []
  F__law_draw : Fun K "_law_draw" "_law_draw" (topS 17) (A 17) (D 17)
  g__law_draw : mg "_law_draw" = some (.ref (A 17))
  b__law_draw : Binds K (D 17) ["_law_source_here", "_law_limit"] []
  F__law_string : Fun K "_law_string" "_law_string" (topS 18) (A 18) (D 18)
  g__law_string : mg "_law_string" = some (.ref (A 18))
  b__law_string : Binds K (D 18) ["_law_source_here"] []
  F__law_integer : Fun K "_law_integer" "_law_integer" (topS 19) (A 19) (D 19)
  g__law_integer : mg "_law_integer" = some (.ref (A 19))
  b__law_integer : Binds K (D 19) ["_law_text"] []
  F__law_number : Fun K "_law_number" "_law_number" (topS 20) (A 20) (D 20)
  g__law_number : mg "_law_number" = some (.ref (A 20))
  b__law_number : Binds K (D 20) ["_law_text", "_law_at"] []
  F__law_number_right : Fun K "_law_number_right" "_law_number_right" (topS 21) (A 21) (D 21)
  g__law_number_right : mg "_law_number_right" = some (.ref (A 21))
  b__law_number_right : Binds K (D 21) ["_law_source_here"] []
  F__law_words : Fun K "_law_words" "_law_words" (topS 22) (A 22) (D 22)
  g__law_words : mg "_law_words" = some (.ref (A 22))
  b__law_words : Binds K (D 22) ["_law_source_here"] []
  F__law_is_name : Fun K "_law_is_name" "_law_is_name" (topS 23) (A 23) (D 23)
  g__law_is_name : mg "_law_is_name" = some (.ref (A 23))
  b__law_is_name : Binds K (D 23) ["_law_word"] []
  F__law_names : Fun K "_law_names" "_law_names" (topS 24) (A 24) (D 24)
  g__law_names : mg "_law_names" = some (.ref (A 24))
  b__law_names : Binds K (D 24) ["_law_words_here", "_law_at"] []
  F__law_names_right : Fun K "_law_names_right" "_law_names_right" (topS 25) (A 25) (D 25)
  g__law_names_right : mg "_law_names_right" = some (.ref (A 25))
  b__law_names_right : Binds K (D 25) ["_law_source_here"] []
  F__law_numbered_right : Fun K "_law_numbered_right" "_law_numbered_right" (topS 26) (A 26) (D 26)
  g__law_numbered_right : mg "_law_numbered_right" = some (.ref (A 26))
  b__law_numbered_right : Binds K (D 26) ["_law_source_here"] []
  F_law : Fun K "law" "law" (topS 27) (A 27) (D 27)
  g_law : mg "law" = some (.ref (A 27))
  b_law : Binds K (D 27) ["_law_script"] []
  z_len : mg "len" = none
  z_int : mg "int" = none
  z_str : mg "str" = none
  z_bool : mg "bool" = none
  z_list : mg "list" = none
  z_tuple : mg "tuple" = none
  z_range : mg "range" = none
  z_enumerate : mg "enumerate" = none
  z_sorted : mg "sorted" = none
  z_isinstance : mg "isinstance" = none
  c_LETTERS : ∃ t, mg "LETTERS" = some (.str "abcdefghijklmnopqrstuvwxyz" t)
  c_DIGITS : ∃ t, mg "DIGITS" = some (.str "0123456789" t)
section
variable {P : Program} {w : World} {K : PySem.W.Frag} {mg : Str → Option Value} {base : Heap} {A : Nat → Addr} {D : Nat → FuncData}
def sp__law_source (K : PySem.W.Frag) : Sp := fun vs H Q _ => ∃ (a : Addr) (ns : List Int) (k : Nat), vs = [.ref a, .int (k : Int)] ∧ SqL K H a (ns.map V.int) ∧ ns.length ≤ 63 ∧
  ∀ p H', H p = none → Kp [] H H' → Src H' p → Q (.ref p) H'
theorem ok__law_source (T : Txt K mg A D) : FnOk P w K mg base CX0 1 (A 16) (D 16) ["_law_script", "_law_k"] (sp__law_source K) := by
  refine T.F__law_source.ok sc__law_source (fun vs H Q E h => ?_) (fun cdv A' outer s H vs Q E hr h => ?_)
  · obtain ⟨a, ns, k, rfl, hS, hl, q⟩ := h
    rfl
  · obtain ⟨a, ns, k, rfl, hS, hl, q⟩ := h
    have hu := hu_of hr
    refine ⟨_, (pss_cons (ps_set (i := 2) sc__law_source.nd rfl (Or.inl rfl) pe_int)
      (pss_cons (ps_if (pt_cmpR op_lt (pv 1) (pe_callB (id := "len") (cK_len (K := K) rfl) (by rfl) T.z_len (by decide +kernel) (pa_cons (pv 0) pa_nil)) (nomark _))
        (pss_one (ps_set (i := 2) sc__law_source.nd rfl (Or.inl rfl) (pe_callTy (T := "int") call_int1 (by rfl) T.z_int (by decide +kernel) (pa_cons (pe_ix (xK_list (K := K) rfl) (pv 0) (pv 1) (fun _ _ => rfl)) pa_nil))))
        pss_nil)
      (pss_one (ps_ret (pe_lst (pa_cons (pv 2) (pa_cons (pe_op op_add (pe_op op_mul pe_int (pv 1)) (pe_callB (id := "len") (cK_len (K := K) rfl) (by rfl) T.z_len (by decide +kernel) (pa_cons (pv 0) pa_nil))) pa_nil))))))), ?_⟩
    -- _law_number = 0; if _law_k < len(_law_script)
    refine ⟨_, rfl, _, rfl, _, ns.length, rfl, .inl ⟨_, hS, by rw [List.length_map]⟩, _, _, rfl, rfl, _, rfl, ?_⟩
    refine ite2 (fun c => ?_) (fun c => ?_)
    · have hk : k < ns.length := by simpa using c
      refine ⟨_, rfl, _, rfl, _, _, _, .int ns[k], rfl, rfl, hS, atI_nat (by simp [hk]), .inl ⟨_, rfl, ?_⟩⟩
      refine ⟨_, rfl, _, rfl, _, _, rfl, rfl, .inl ⟨by decide, by decide⟩, _, rfl, _, ns.length, rfl, .inl ⟨_, hS, by rw [List.length_map]⟩, _, _, rfl, rfl, sz (by simp), fun p hp => ?_⟩
      exact q p _ hp (Kp.new hp) ⟨_, _, upd_same⟩
    · refine ⟨_, rfl, _, rfl, _, _, rfl, rfl, .inl ⟨by decide, by decide⟩, _, rfl, _, ns.length, rfl, .inl ⟨_, hS, by rw [List.length_map]⟩, _, _, rfl, rfl, sz (by simp), fun p hp => ?_⟩
      exact q p _ hp (Kp.new hp) ⟨_, _, upd_same⟩
def sp__law_draw (K : PySem.W.Frag) : Sp := fun vs H Q _ => ∃ (a : Addr) (lim : Int), vs = [.ref a, .int lim] ∧ Src H a ∧ 0 < lim ∧ lim < 1073741824 ∧
  ∀ (r : Int) H', 0 ≤ r → r < lim → Kp [a] H H' → Src H' a → Q (.int r) H'
theorem ok__law_draw (T : Txt K mg A D) : FnOk P w K mg base CX0 1 (A 17) (D 17) ["_law_source_here", "_law_limit"] (sp__law_draw K) := by
  refine T.F__law_draw.ok sc__law_draw (fun vs H Q E h => ?_) (fun cdv A' outer s H vs Q E hr h => ?_)
  · obtain ⟨a, lim, rfl, ⟨n, c, hs⟩, h0, h1, q⟩ := h
    rfl
  · obtain ⟨a, lim, rfl, ⟨n, c, hs⟩, h0, h1, q⟩ := h
    have hu := hu_of hr
    refine ⟨_, (pss_cons (ps_set (i := 2) sc__law_draw.nd rfl (Or.inl rfl) (pe_ix (xK_list (K := K) rfl) (pv 0) pe_int (fun _ _ => rfl)))
      (pss_cons (ps_if (pt_cmpR op_ge (pv 2) (pe_op op_pow pe_int pe_int) (nomark _))
        (pss_cons (ps_asg (pe_op op_fdiv (pv 2) (pv 1)) (pg_sub (pv 0) pe_int set_list))
        (pss_one (ps_ret (pe_op op_mod (pe_callTy (T := "int") call_int1 (by rfl) T.z_int (by decide +kernel) (pa_cons (pv 2) pa_nil)) (pv 1)))))
        pss_nil)
      (pss_cons (ps_asg (pe_op op_add (pe_ix (xK_list (K := K) rfl) (pv 0) pe_int (fun _ _ => rfl)) pe_int) (pg_sub (pv 0) pe_int set_list))
      (pss_cons (ps_set (i := 3) sc__law_draw.nd rfl (Or.inl rfl) (pe_op op_mod (pe_callTy (T := "int") call_int1 (by rfl) T.z_int (by decide +kernel) (pa_cons (pe_op op_add (pe_op op_add (pe_op op_mul (pv 2) pe_int) (pe_op op_mul (pe_ix (xK_list (K := K) rfl) (pv 0) pe_int (fun _ _ => rfl)) pe_int)) pe_int) pa_nil)) pe_int))
      (pss_cons (ps_set (i := 3) sc__law_draw.nd rfl (Or.inl rfl) (pe_op op_mod (pe_callTy (T := "int") call_int1 (by rfl) T.z_int (by decide +kernel) (pa_cons (pe_op op_add (pe_op op_add (pe_op op_mul (pv 3) (pv 3)) (pv 2)) (pe_op op_mul (pe_ix (xK_list (K := K) rfl) (pv 0) pe_int (fun _ _ => rfl)) pe_int)) pa_nil)) pe_int))
      (pss_cons (ps_set (i := 3) sc__law_draw.nd rfl (Or.inl rfl) (pe_op op_mod (pe_callTy (T := "int") call_int1 (by rfl) T.z_int (by decide +kernel) (pa_cons (pe_op op_add (pe_op op_add (pe_op op_mul (pv 3) (pv 3)) (pe_op op_fdiv (pv 3) pe_int)) pe_int) pa_nil)) pe_int))
      (pss_one (ps_ret (pe_op op_mod (pe_op op_fdiv (pe_callTy (T := "int") call_int1 (by rfl) T.z_int (by decide +kernel) (pa_cons (pv 3) pa_nil)) pe_int) (pv 1)))))))))), ?_⟩
    walk_at "rds"
    refine ⟨⟨by decide, by decide, by decide⟩, ?_⟩
    walk_at "rds"
    have kp : ∀ o, Kp [a] H (upd H a o) := fun o => Kp.own hs rfl (by simp)
    refine ite2 (fun _ => ?_) (fun _ => ?_)
    · refine ⟨_, rfl, _, rfl, _, _, rfl, rfl, ⟨h0, h1⟩, _, rfl, a, _, _, 0, rfl, rfl, hs, rfl, ?_⟩
      refine ⟨_, rfl, .inl ⟨_, rfl, _, rfl, _, _, rfl, rfl, h0, ?_⟩⟩
      exact q _ _ (Int.emod_nonneg _ (by omega)) (Int.emod_lt_of_pos _ h0) (kp _) ⟨_, _, upd_same⟩
    · have e1 : SqL K H a [.int n, .int c] := SqL.of hs
      refine ⟨_, rfl, _, _, _, _, rfl, rfl, e1, rfl, _, _, rfl, rfl, _, rfl, a, _, _, 1, rfl, rfl, hs, rfl, ?_⟩
      have e2 : SqL K (upd H a (.lst [.int n, .int (c + 1)])) a [.int n, .int (c + 1)] := SqL.of upd_same
      refine ⟨_, rfl, _, _, rfl, rfl, .inr ⟨by decide, by decide⟩, _, rfl, _, _, _, _, rfl, rfl, e2, rfl, _, _, rfl, rfl, .inr ⟨by decide, by decide⟩, _, _, rfl, rfl, _, _, rfl, rfl, .inl ⟨_, rfl, _, _, rfl, rfl, (by show (0 : Int) < _; decide), ?_⟩⟩
      refine ⟨_, rfl, _, rfl, _, _, rfl, rfl, .inl ⟨by omega, by omega⟩, _, rfl, _, _, rfl, rfl, _, rfl, _, _, _, _, rfl, rfl, e2, rfl, _, _, rfl, rfl, .inr ⟨by decide, by decide⟩, _, _, rfl, rfl, .inl ⟨_, rfl, _, _, rfl, rfl, (by show (0 : Int) < _; decide), ?_⟩⟩
      refine ⟨_, rfl, _, rfl, _, _, rfl, rfl, .inl ⟨by omega, by omega⟩, _, rfl, _, _, rfl, rfl, ⟨by decide, by decide⟩, _, _, rfl, rfl, _, _, rfl, rfl, .inl ⟨_, rfl, _, _, rfl, rfl, (by show (0 : Int) < _; decide), ?_⟩⟩
      refine ⟨_, rfl, .inl ⟨_, rfl, _, _, rfl, rfl, ⟨by decide, by decide⟩, _, rfl, _, _, rfl, rfl, h0, ?_⟩⟩
      exact q _ _ (Int.emod_nonneg _ (by omega)) (Int.emod_lt_of_pos _ h0) (kp _) ⟨_, _, upd_same⟩
theorem ok_InvalidName__init (T : Txt K mg A D) : FnOk P w K mg base CX0 1 (A 1040) (D 1040) ["self", "name"] (sp_err (A 2) "name") := by
  refine T.E_InvalidName.F.ok sc_InvalidName___init__ (fun vs H Q E h => ?_) (fun cdv A' outer s H vs Q E hr h => ?_)
  · obtain ⟨a, v, rfl, _⟩ := h
    rfl
  · obtain ⟨a, v, rfl, ha, q⟩ := h
    refine ⟨_, (pss_cons (ps_expr (pe_seinit T.S_InvalidName rfl T.g_ShadowError (pa_cons (pv 0) (pa_cons pe_str pa_nil)))) (pss_one (ps_ost (pv 0) (pv 1)))), ?_⟩
    refine ⟨_, rfl, a, _, _, rfl, by simp, T.E_InvalidName.oex, ha, ?_⟩
    exact ⟨_, rfl, _, rfl, a, _, rfl, T.E_InvalidName.oex, T.E_InvalidName.no, .inl ⟨ha, fun dx hdx ne => q dx hdx ne⟩⟩
theorem ok_InvalidText__init (T : Txt K mg A D) : FnOk P w K mg base CX0 1 (A 1060) (D 1060) ["self", "line"] (sp_err (A 3) "line") := by
  refine T.E_InvalidText.F.ok sc_InvalidText___init__ (fun vs H Q E h => ?_) (fun cdv A' outer s H vs Q E hr h => ?_)
  · obtain ⟨a, v, rfl, _⟩ := h
    rfl
  · obtain ⟨a, v, rfl, ha, q⟩ := h
    refine ⟨_, (pss_cons (ps_expr (pe_seinit T.S_InvalidText rfl T.g_ShadowError (pa_cons (pv 0) (pa_cons pe_str pa_nil)))) (pss_one (ps_ost (pv 0) (pv 1)))), ?_⟩
    refine ⟨_, rfl, a, _, _, rfl, by simp, T.E_InvalidText.oex, ha, ?_⟩
    exact ⟨_, rfl, _, rfl, a, _, rfl, T.E_InvalidText.oex, T.E_InvalidText.no, .inl ⟨ha, fun dx hdx ne => q dx hdx ne⟩⟩
def sp_is_number (K : PySem.W.Frag) : Sp := fun vs H Q _ => ∃ (s : Str), vs = [.str s] ∧ s.length ≤ 1000 ∧ Q (.bl (isNumL (TL.tl s))) H
theorem ok_is_number (T : Txt K mg A D) : FnOk P w K mg base CX0 1 (A 10) (D 10) ["text"] (sp_is_number K) := by
  refine T.F_is_number.ok sc_is_number (fun vs H Q E h => ?_) (fun cdv A' outer s H vs Q E hr h => ?_)
  · obtain ⟨s, rfl, hs, q⟩ := h
    rfl
  · obtain ⟨s, rfl, hs, q⟩ := h
    have hu := hu_of hr
    refine ⟨_, (pss_cons (ps_set (i := 1) sc_is_number.nd rfl (Or.inl rfl) (pe_bm PySem.F.plainAttrs_str PySem.F.slot_str_removeprefix PySem.F.type_str_removeprefix mt_removeprefix (pv 0) (pa_cons pe_str pa_nil)))
      (pss_cons (ps_if (PW.pt (pw_or (pt_cmpR op_eq (pv 1) pe_str (nomark _)) (pw_or1 (pt_cmpR op_eq (pv 0) pe_str (nomark _)))))
        (pss_one (ps_ret pe_bl))
        pss_nil)
      (pss_cons (ps_for PassesOwn.never rfl (pi_str (pv 1)) (pg_name (i := 2) sc_is_number.nd rfl (Or.inl rfl))
        (pss_one (ps_if (pt_cmpR op_notIn_sign (pv 2) (pe_glob (v := .str "0123456789") rfl T.c_DIGITS.choose_spec ⟨_, rfl⟩) rfl)
          (pss_one (ps_ret pe_bl))
          pss_nil)))
      (pss_one (ps_ret (pe_or (pe_cmpR op_eq (pv 1) pe_str (nomark _)) (pe_one (pe_cmpR op_ne (pe_ix ix_str (pv 1) pe_int (fun _ _ => rfl)) pe_str (nomark _))))))))), ?_⟩
    walk_at "st"
    refine ⟨_, rfl, rfl, _, _, rfl, rfl, sz (by omega), ?_⟩
    have ed := tl_strip s
    have dl : (Txt.removeprefix s "-").length ≤ 1000 := by
      have : (stripM (TL.tl s)).length ≤ (TL.tl s).length := by
        unfold stripM
        split
        · rename_i e; rw [e]; simp
        · exact Nat.le_refl _
      rw [TL.len_tl, ed]
      rw [TL.len_tl] at hs
      omega
    revert ed dl
    generalize Txt.removeprefix s "-" = d
    intro ed dl
    have tl0 : TL.tl ("-0" : Str) = [45, 48] := by decide +kernel
    have tl1 : TL.tl ("0" : Str) = [48] := by decide +kernel
    have tlE : TL.tl ("" : Str) = [] := by decide +kernel
    walk_at "if"
    · intro c1
      walk_at "st"
      refine asB q ?_
      simp only [Bool.or_eq_true, decide_eq_true_eq, V.str.injEq] at c1
      unfold isNumL
      rw [← ed]
      rcases c1 with rfl | rfl
      · rw [tlE]; rfl
      · rw [tl0] at ed ⊢
        rw [ed]
        decide
    · intro c1
      simp only [Bool.or_eq_false_iff, decide_eq_false_iff_not, V.str.injEq] at c1
      obtain ⟨n1, n2⟩ := c1
      have ne : TL.tl s ≠ [45, 48] := fun e => n2 (TL.ext_tl (e.trans tl0.symm))
      obtain ⟨c, r, hcr⟩ : ∃ c r, TL.tl d = c :: r := by
        cases h : TL.tl d with
        | nil => exact absurd (TL.ext_tl (h.trans tlE.symm)) n1
        | cons c r => exact ⟨c, r, rfl⟩
      refine seq_forK ?_
      refine ⟨_, rfl, _, rfl, for_seq walk_str (fun i σ H' => H' = H ∧ (∃ v, σ = [some (.str s), some (.str d), v]) ∧ ∀ j c, j < i → d.cps[j]? = some c → isDig c = true) ⟨rfl, ⟨_, rfl⟩, fun j c z => by omega⟩ (fun _ _ _ _ _ => trivial) ?_ ?_⟩
      · rintro i x σ H1 H2 hi ⟨rfl, ⟨v, rfl⟩, hall⟩ ⟨rfl, z, hz, rfl⟩
        refine gnK ?_
        refine if_anK ?_
        refine ⟨_, rfl, _, _, rfl, rfl, _, rfl, ?_⟩
        rw [mem_dig]
        refine ite2 (fun c5 => ?_) (fun c5 => ?_)
        · simp only [Bool.not_eq_true'] at c5
          walk_at "st"
          refine asB q ?_
          unfold isNumL
          have hf : (TL.tl d).all isDig = false := all_false (p := isDig) hz c5
          rw [← ed, hf, Bool.false_and, Bool.and_false]
        · simp only [Bool.not_eq_true', Bool.not_eq_false] at c5
          refine nextK ?_
          refine ⟨rfl, ⟨_, rfl⟩, fun j y hj e => ?_⟩
          rcases Nat.lt_succ_iff_lt_or_eq.mp hj with z' | z'
          · exact hall j y z' e
          · subst z'
            rw [hz] at e; cases e
            exact c5
      · rintro σ H1 ⟨rfl, ⟨v, rfl⟩, hall⟩
        have ha : (TL.tl d).all isDig = true := all_true (p := isDig) fun j y e => hall j y (Array.getElem?_eq_some_iff.mp e).1 e
        walk_at "st"
        have h0 : atI d.cps.toList 0 = some c := by
          have : d.cps.toList = c :: r := hcr
          rw [this]
          exact atI_nat (j := 0) rfl
        refine vl_orV (a := decide (TL.tl d = [48])) (b := !decide (c = 48)) (vl_op (vl_var rfl) vl_c fun Q q => ⟨rfl, asB q ?_⟩) (fun _ => vl_op (x := .str ⟨#[c]⟩) (vl_op (vl_var rfl) vl_c fun Q q => ⟨_, _, _, rfl, rfl, sz (by omega), h0, q⟩) vl_c fun Q q => ⟨rfl, asB q ?_⟩) _ ?_
        · refine asB q ?_
          rw [ed] at hcr
          unfold isNumL
          rw [← ed, ha, ed, hcr]
          rw [← num_last hcr ne]
          rfl
        · rw [decide_eq_decide]
          simp only [V.str.injEq]
          exact ⟨fun e => TL.ext_tl (e.trans tl1.symm), fun e => by rw [e]; exact tl1⟩
        · congr 1
          rw [decide_eq_decide]
          simp only [V.str.injEq]
          have : TL.tl (⟨#[c]⟩ : Str) = [c] := rfl
          exact ⟨fun e => TL.ext_tl (by rw [this, tl1, e]), fun e => by rw [e, tl1] at this; simpa using this.symm⟩
def sp_parse_number (K : PySem.W.Frag) (C : Addr) : Sp := fun vs H Q E => ∃ (s : Str) (n : Int), vs = [.str s, .int n] ∧ s.length ≤ 600 ∧ (isNumL (TL.tl s) = true → Q (.int (valL (TL.tl s))) H) ∧
  (isNumL (TL.tl s) = false → ∀ d, H d = none → E (.ref C) (some d) (upd H d (.xd [("line", .int n)])))
theorem ok_parse_number (T : Txt K mg A D) : FnOk P w K mg base (L2.CX P w) 3 (A 11) (D 11) ["text", "line"] (sp_parse_number K (A 3)) := by
  refine T.F_parse_number.ok (CX := (L2.CX P w)) sc_parse_number (fun vs H Q E h => ?_) (fun cdv A' outer s H vs Q E hr h => ?_)
  · obtain ⟨s, n, rfl, hs, q, e⟩ := h
    rfl
  · obtain ⟨s, n, rfl, hs, q, e⟩ := h
    have hu := hu_of hr
    have G_is_number : FnOk P w K mg base CX0 1 (A 10) (D 10) ["text"] (sp_is_number K) := ok_is_number T
    have G_InvalidText__init : FnOk P w K mg base CX0 1 (A 1060) (D 1060) ["self", "line"] (sp_err (A 3) "line") := ok_InvalidText__init T
    refine ⟨_, (pss_cons (ps_if (pt_not (pt_val (pe_call G_is_number (hr.mono (by decide)) rfl T.g_is_number T.F_is_number.kp T.b_is_number .nil pass0 (pa_cons (pv 0) pa_nil))))
        (pss_one (ps_raise rfl (takes_of rfl rfl rfl rfl) (pmk_err T.E_InvalidText G_InvalidText__init (hr.mono (by decide)) rfl (pa_cons (pv 1) pa_nil))))
        pss_nil)
      (pss_one (ps_ret (pe_callTy (T := "int") call_int_str (by rfl) T.z_int (by decide +kernel) (pa_cons (pv 0) pa_nil))))), ?_⟩
    walk_at "st"
    refine ⟨_, rfl, s, rfl, by omega, ?_⟩
    refine ⟨_, rfl, ?_⟩
    refine ite2 (fun c => ?_) (fun c => ?_)
    · simp only [Bool.not_eq_true'] at c
      exact ⟨_, rfl, mkO_of ⟨_, rfl, fun d hd => e c d hd⟩⟩
    · simp only [Bool.not_eq_true', Bool.not_eq_false] at c
      walk_at "st"
      exact ⟨_, rfl, s, _, rfl, int_num c hs, by omega, q c⟩
/-- the word at k is a full name behind the one before -/
def okAt (ws : List Str) (k : Nat) : Bool := isFull (ws.getD k "") && (decide (k = 0) || decide (slt (ws.getD (k - 1) "") (ws.getD k "")))
def goodW (ws : List Str) : Bool := (List.range ws.length).all (okAt ws)
def sp_parse_names (K : PySem.W.Frag) (C : Addr) : Sp := fun vs H Q E => ∃ (a : Addr) (ws : List Str) (n : Int), vs = [.ref a, .int n] ∧ Sq K H a (ws.map V.str) ∧ ws.length < 100 ∧ (∀ w ∈ ws, w.length ≤ 100000) ∧
  (goodW ws = true → ∀ r H', Kp [] H H' → SqT K H' r (ws.map V.str) → Q (.ref r) H') ∧
  (goodW ws = false → ∀ d H1, Kp [] H H1 → H1 d = none → E (.ref C) (some d) (upd H1 d (.xd [("line", .int n)])))
def sp_is_name (K : PySem.W.Frag) : Sp := fun vs H Q _ => ∃ (s : Str), vs = [.str s] ∧ s.length ≤ 100000 ∧ Q (.bl (isName s)) H
theorem ok_is_name (T : Txt K mg A D) : FnOk P w K mg base CX0 1 (A 7) (D 7) ["text"] (sp_is_name K) := by
  refine T.F_is_name.ok sc_is_name (fun vs H Q E h => ?_) (fun cdv A' outer s H vs Q E hr h => ?_)
  · obtain ⟨s, rfl, hs, q⟩ := h
    rfl
  · obtain ⟨s, rfl, hs, q⟩ := h
    have hu := hu_of hr
    refine ⟨_, (pss_cons (ps_if (PW.pt (pw_or (pt_not (pt_chain op_le op_le pe_int (pe_callB (id := "len") call_len_str (by rfl) T.z_len (by decide +kernel) (pa_cons (pv 0) pa_nil)) pe_int)) (pw_or1 (pt_cmpR op_notIn_sign (pe_ix ix_str (pv 0) pe_int (fun _ _ => rfl)) (pe_glob (v := .str "abcdefghijklmnopqrstuvwxyz") rfl T.c_LETTERS.choose_spec ⟨_, rfl⟩) rfl))))
        (pss_one (ps_ret pe_bl))
        pss_nil)
      (pss_cons (ps_for PassesOwn.never rfl (pi_str (pv 0)) (pg_name (i := 1) sc_is_name.nd rfl (Or.inl rfl))
        (pss_one (ps_if (PW.pt (pw_and (pt_cmpR op_notIn_sign (pv 1) (pe_glob (v := .str "abcdefghijklmnopqrstuvwxyz") rfl T.c_LETTERS.choose_spec ⟨_, rfl⟩) rfl) (pw_and1 (pt_cmpR op_notIn_sign (pv 1) (pe_glob (v := .str "0123456789") rfl T.c_DIGITS.choose_spec ⟨_, rfl⟩) rfl))))
          (pss_one (ps_ret pe_bl))
          pss_nil)))
      (pss_one (ps_ret pe_bl)))), ?_⟩
    refine ⟨_, rfl, _, rfl, sz hs, _, _, rfl, rfl, _, rfl, ?_⟩
    refine ite2 (fun c1 => ?_) (fun c1 => ?_)
    · refine ⟨_, _, rfl, rfl, _, rfl, ?_⟩
      refine ite2 (fun c2 => ?_) (fun c2 => ?_)
      · refine iteT ?_
        exact asB q (isName_no fun z => by simp at c2; omega)
      · have l8 : s.length ≤ 8 := by simp at c2; omega
        have l1 : 0 < s.length := by simp at c1; omega
        obtain ⟨c, hc, ha⟩ := atS l1
        refine ⟨_, rfl, _, _, c, rfl, rfl, sz hs, ha, _, _, rfl, rfl, _, rfl, ?_⟩
        refine ite2 (fun c3 => ?_) (fun c3 => ?_)
        · refine asB q ?_
          rw [isName_at hc l8, ← mem_let]
          simp only [Bool.not_eq_true'] at c3
          rw [c3]; rfl
        · rw [isName_at hc l8, ← mem_let] at q
          simp only [Bool.not_eq_true', Bool.not_eq_false] at c3
          rw [c3, Bool.true_and] at q
          refine ⟨_, rfl, _, rfl, for_it walk_str (fun i σ H' => H' = H ∧ (∃ v, σ = [some (.str s), v]) ∧ ∀ j c, j < i → s.cps[j]? = some c → (isLet c || isDig c) = true) ⟨rfl, ⟨_, rfl⟩, fun j c z => by omega⟩ (fun _ _ _ _ _ => trivial) ?_ ?_⟩
          · rintro i x σ H1 H2 hi ⟨rfl, ⟨v, rfl⟩, hall⟩ ⟨rfl, d, hd, rfl⟩
            refine ⟨_, rfl, _, _, rfl, rfl, _, rfl, ?_⟩
            rw [mem_let]
            have next : (isLet d || isDig d) = true → ∀ j c, j < i + 1 → s.cps[j]? = some c → (isLet c || isDig c) = true := fun hd' j c hj e => by
              rcases Nat.lt_succ_iff_lt_or_eq.mp hj with z | z
              · exact hall j c z e
              · subst z
                rw [hd] at e; cases e
                exact hd'
            refine ite2 (fun c4 => ?_) (fun c4 => ?_)
            · refine ⟨_, rfl, _, _, rfl, rfl, _, rfl, ?_⟩
              rw [mem_dig]
              simp only [Bool.not_eq_true'] at c4
              refine ite2 (fun c5 => ?_) (fun c5 => ?_)
              · simp only [Bool.not_eq_true'] at c5
                exact asB q (all_false hd (by rw [c4, c5]; rfl))
              · simp only [Bool.not_eq_true', Bool.not_eq_false] at c5
                exact ⟨rfl, ⟨_, rfl⟩, next (by rw [c5]; simp)⟩
            · simp only [Bool.not_eq_true', Bool.not_eq_false] at c4
              exact ⟨rfl, ⟨_, rfl⟩, next (by rw [c4]; rfl)⟩
          · rintro σ H1 ⟨rfl, ⟨v, rfl⟩, hall⟩
            exact asB q (all_true fun j c e => hall j c (by
              have := (Array.getElem?_eq_some_iff.mp e).1
              exact this) e)
    · refine ⟨_, rfl, ?_⟩
      refine iteT ?_
      exact asB q (isName_no fun z => by simp at c1; omega)
def sp_is_full_name (K : PySem.W.Frag) : Sp := fun vs H Q _ => ∃ (s : Str), vs = [.str s] ∧ s.length ≤ 100000 ∧ ∀ H', Kp [] H H' → Q (.bl (isFull s)) H'
theorem ok_is_full_name (T : Txt K mg A D) : FnOk P w K mg base CX0 2 (A 8) (D 8) ["text"] (sp_is_full_name K) := by
  refine T.F_is_full_name.ok sc_is_full_name (fun vs H Q E h => ?_) (fun cdv A' outer s H vs Q E hr h => ?_)
  · obtain ⟨s, rfl, hs, q⟩ := h
    rfl
  · obtain ⟨s, rfl, hs, q⟩ := h
    have hu := hu_of hr
    have G_is_name : FnOk P w K mg base CX0 1 (A 7) (D 7) ["text"] (sp_is_name K) := ok_is_name T
    refine ⟨_, (pss_cons (ps_for PassesOwn.never rfl (iK_list (K := K) rfl (pe_split (pv 0) pe_str)) (pg_name (i := 1) sc_is_full_name.nd rfl (Or.inl rfl))
        (pss_one (ps_if (pt_not (pt_val (pe_call G_is_name (hr.mono (by decide)) rfl T.g_is_name T.F_is_name.kp T.b_is_name .nil pass0 (pa_cons (pv 1) pa_nil))))
          (pss_one (ps_ret pe_bl))
          pss_nil)))
      (pss_one (ps_ret pe_bl))), ?_⟩
    refine ⟨_, rfl, ⟨_, rfl⟩, _, _, rfl, rfl, rfl, (by show s.length + 2 ≤ sizeLine; exact Nat.le_trans (Nat.add_le_add_right hs 2) (by decide)), fun p hp => ?_⟩
    have hL : SqL K (upd H p (.lst ((Txt.split s ".").map V.str))) p ((Txt.split s ".").map V.str) := SqL.of upd_same
    refine ⟨_, rfl, ⟨_, hL⟩, for_it walk_list (fun i σ H' => H' = upd H p (.lst ((Txt.split s ".").map V.str)) ∧ (∃ v, σ = [some (.str s), v]) ∧ ∀ (j : Nat) (x : Str), j < i → (Txt.split s ".")[j]? = some x → isName x = true) ⟨rfl, ⟨_, rfl⟩, fun j x z => by omega⟩ (fun i σ H' _ z => by rw [z.1]; exact hL) ?_ ?_⟩
    · rintro i v σ H1 H2 hi ⟨rfl, ⟨u, rfl⟩, hall⟩ ⟨rfl, hv⟩
      rw [List.getElem?_map] at hv
      obtain ⟨x, hx, rfl⟩ := Option.map_eq_some_iff.mp hv
      have hm : x ∈ Txt.split s "." := List.mem_of_getElem? hx
      refine ⟨_, rfl, x, rfl, Nat.le_trans (split_short hm) hs, _, rfl, ?_⟩
      refine ite2 (fun c => ?_) (fun c => ?_)
      · simp only [Bool.not_eq_true'] at c
        refine asB (q _ (Kp.new hp)) ?_
        cases e : isFull s with
        | false => rfl
        | true =>
          have := List.all_eq_true.mp e x hm
          rw [c] at this; cases this
      · simp only [Bool.not_eq_true', Bool.not_eq_false] at c
        refine ⟨rfl, ⟨_, rfl⟩, fun j y hj e => ?_⟩
        rcases Nat.lt_succ_iff_lt_or_eq.mp hj with z | z
        · exact hall j y z e
        · subst z
          rw [hx] at e; cases e
          exact c
    · rintro σ H1 ⟨rfl, ⟨v, rfl⟩, hall⟩
      refine asB (q _ (Kp.new hp)) (List.all_eq_true.mpr fun x hx => ?_)
      obtain ⟨j, hj⟩ := List.mem_iff_getElem?.mp hx
      exact hall j x (by rw [List.length_map]; exact (List.getElem?_eq_some_iff.mp hj).1) hj
theorem ok_parse_names (T : Txt K mg A D) : FnOk P w K mg base (L2.CX P w) 3 (A 14) (D 14) ["words", "line"] (sp_parse_names K (A 3)) := by
  refine T.F_parse_names.ok (CX := (L2.CX P w)) sc_parse_names (fun vs H Q E h => ?_) (fun cdv A' outer s H vs Q E hr h => ?_)
  · obtain ⟨a, ws, n, rfl, hq, hl, hw, q, e⟩ := h
    rfl
  · obtain ⟨a, ws, n, rfl, hq, hl, hw, q, e⟩ := h
    have hu := hu_of hr
    have G_is_full_name : FnOk P w K mg base CX0 2 (A 8) (D 8) ["text"] (sp_is_full_name K) := ok_is_full_name T
    have G_InvalidText__init : FnOk P w K mg base CX0 1 (A 1060) (D 1060) ["self", "line"] (sp_err (A 3) "line") := ok_InvalidText__init T
    refine ⟨_, (pss_cons (ps_for (passes_of rfl) rfl (pi_range1 rfl T.z_range (pa_cons (pe_callB (id := "len") (cK_len (K := K) rfl) (by rfl) T.z_len (by decide +kernel) (pa_cons (pv 0) pa_nil)) pa_nil)) (pg_name (i := 2) sc_parse_names.nd rfl (Or.inl rfl))
        (pss_one (ps_if (PW.pt (pw_or (pt_not (pt_val (pe_call G_is_full_name (hr.mono (by decide)) rfl T.g_is_full_name T.F_is_full_name.kp T.b_is_full_name .nil pass0 (pa_cons (pe_ix (xK_seq (K := K) rfl) (pv 0) (pv 2) (fun _ _ => rfl)) pa_nil)))) (pw_or1 (PW.pt (pw_and (pt_cmpR op_gt (pv 2) pe_int (nomark _)) (pw_and1 (pt_cmpR op_ge_str (pe_ix (xK_seq (K := K) rfl) (pv 0) (pe_op op_sub (pv 2) pe_int) (fun _ _ => rfl)) (pe_ix (xK_seq (K := K) rfl) (pv 0) (pv 2) (fun _ _ => rfl)) (nomark _))))))))
          (pss_one (ps_raise rfl (takes_of rfl rfl rfl rfl) (pmk_err T.E_InvalidText G_InvalidText__init (hr.mono (by decide)) rfl (pa_cons (pv 1) pa_nil))))
          pss_nil)))
      (pss_one (ps_ret (pe_callTy (T := "tuple") (cK_tuple (K := K) rfl) (by rfl) T.z_tuple (by decide +kernel) (pa_cons (pv 0) pa_nil))))), ?_⟩
    refine seq_forK ?_
    have hL : LenV K (.ref a) H (ws.length) := hq.elim (fun h => .inl ⟨_, h, by rw [List.length_map]⟩) (fun h => .inr ⟨_, h, by rw [List.length_map]⟩)
    have sq : ∀ H', Kp [] H H' → Sq K H' a (ws.map V.str) := fun H' k => hq.imp (fun h => k.sqL List.not_mem_nil h) (fun h => k.sqT h)
    have rd : ∀ H' (k : Kp [] H H') (j : Nat) (z : Str) (i : Int) (Q : VK), ws[j]? = some z → i = (j : Int) → Q (.str z) H' → rIx K (.ref a) (.int i) H' Q := fun H' k j z i Q hj hi q => by
      have hz : atI (ws.map V.str) i = some (.str z) := by rw [hi]; exact atI_nat (by rw [List.getElem?_map, hj]; rfl)
      exact (sq H' k).elim (fun h => .inl ⟨a, _, _, _, rfl, rfl, h, hz, q⟩) (fun h => .inr (.inl ⟨a, _, _, _, rfl, rfl, h, hz, q⟩))
    refine ⟨_, rfl, _, ws.length, rfl, hL, _, rfl, by omega, by omega, for_seq walk_range (fun i σ H' => (∃ v, σ = [some (.ref a), some (.int n), v]) ∧ Kp [] H H' ∧ ∀ j, j < i → okAt ws j = true)
      ⟨⟨_, rfl⟩, Kp.refl, fun j h => absurd h (by omega)⟩ (fun _ _ _ _ _ => trivial) ?_ ?_⟩
    · rintro i x σ H1 H2 hi ⟨⟨v, rfl⟩, k2, hall⟩ ⟨rfl, rfl⟩
      have hi' : i < ws.length := by omega
      obtain ⟨z, hz⟩ : ∃ z, ws[i]? = some z := ⟨_, List.getElem?_eq_getElem hi'⟩
      have gz : ws.getD i "" = z := by rw [List.getD_eq_getElem?_getD, hz]; rfl
      have bad : okAt ws i = false → goodW ws = false := fun h => by
        unfold goodW
        rw [List.all_eq_false]
        exact ⟨i, List.mem_range.mpr hi', by rw [h]; exact Bool.false_ne_true⟩
      refine gnK ?_
      refine if_anK ?_
      refine ⟨_, rfl, _, rfl, rd H2 k2 i z _ _ hz (by omega) ?_⟩
      refine ⟨z, rfl, hw z (List.mem_of_getElem? hz), fun H3 k3 => ?_⟩
      have k3' := k2.trans k3
      refine ⟨_, rfl, ?_⟩
      refine ite2 (fun c => ?_) (fun c => ?_)
      · simp only [Bool.not_eq_true'] at c
        refine iteT ?_
        refine ⟨_, rfl, mkO_of ⟨_, rfl, fun d hd => e (bad ?_) d H3 k3' hd⟩⟩
        unfold okAt
        rw [gz, c]; rfl
      · simp only [Bool.not_eq_true', Bool.not_eq_false] at c
        refine ⟨_, rfl, _, _, rfl, rfl, _, rfl, ?_⟩
        refine ite2 (fun c2 => ?_) (fun c2 => ?_)
        · have i0 : 0 < i := by simpa using c2
          obtain ⟨y, hy⟩ : ∃ y, ws[i - 1]? = some y := ⟨_, List.getElem?_eq_getElem (by omega)⟩
          have gy : ws.getD (i - 1) "" = y := by rw [List.getD_eq_getElem?_getD, hy]; rfl
          refine ⟨_, rfl, _, rfl, _, _, rfl, rfl, rd H3 k3' (i - 1) y _ _ hy (by omega) ?_⟩
          refine ⟨_, rfl, _, rfl, rd H3 k3' i z _ _ hz (by omega) ?_⟩
          refine ⟨_, _, rfl, rfl, _, rfl, ?_⟩
          refine ite2 (fun c3 => ?_) (fun c3 => ?_)
          · refine ⟨_, rfl, mkO_of ⟨_, rfl, fun d hd => e (bad ?_) d H3 k3' hd⟩⟩
            simp only [Bool.not_eq_true', decide_eq_false_iff_not] at c3
            unfold okAt
            rw [gz, gy, c, decide_eq_false (by omega : ¬ i = 0), decide_eq_false (show ¬ slt y z from c3)]; rfl
          · refine nextK ?_
            simp only [Bool.not_eq_true', decide_eq_false_iff_not, Classical.not_not] at c3
            refine ⟨⟨_, rfl⟩, k3', fun j hj => ?_⟩
            rcases Nat.lt_succ_iff_lt_or_eq.mp hj with h | h
            · exact hall j h
            · subst h
              unfold okAt
              rw [gz, gy, c, decide_eq_true (show slt y z from c3)]; simp
        · have i0 : i = 0 := by
            have : ¬ (0 : Int) < 0 + (i : Int) := by simpa using c2
            omega
          refine iteF ?_
          refine nextK ?_
          refine ⟨⟨_, rfl⟩, k3', fun j hj => ?_⟩
          have : j = i := by omega
          subst this
          unfold okAt
          rw [gz, c, decide_eq_true i0]; rfl
    · rintro σ H1 ⟨⟨v, rfl⟩, k1, hall⟩
      have good : goodW ws = true := by
        unfold goodW
        rw [List.all_eq_true]
        exact fun j hj => hall j (by have := List.mem_range.mp hj; omega)
      walk_at "st"
      refine ⟨_, rfl, a, ws.map V.str, rfl, ?_⟩
      rcases sq H1 k1 with h | h
      · exact .inl ⟨h, fun r hr => q good r _ (k1.trans (Kp.new hr)) (SqT.of upd_same)⟩
      · exact .inr ⟨h, q good a _ k1 h⟩
theorem num_len {i : Int} (h : i.natAbs < 10 ^ 70) : (Str.ofString (toString i)).length ≤ 80 := by
  have e := PySem.int_text_length_le10 (k := 70) (by decide) h
  rw [PySem.ofString_length]; omega
theorem num_log {i : Int} (h : i.natAbs < 10 ^ 70) : i.natAbs.log2 < 1920 := by
  rcases Nat.eq_zero_or_pos i.natAbs with z | z
  · rw [z]; decide
  · exact (Nat.log2_lt (by omega)).mpr (Nat.lt_trans h (by decide +kernel))
theorem at_list {xs : List V} {r : Int} (h0 : 0 ≤ r) (h1 : r < xs.length) : ∃ v, v ∈ xs ∧ atI xs r = some v := by
  obtain ⟨n, rfl⟩ := Int.eq_ofNat_of_zero_le h0
  have h : n < xs.length := by omega
  exact ⟨xs[n], List.getElem_mem h, atI_nat (by simp [h])⟩
theorem src_ne {H : Hp} {a l : Addr} (h : Src H a) (n : H l = none) : l ≠ a := fun e => by subst e; obtain ⟨_, _, e⟩ := h; rw [n] at e; cases e
def sp__law_string (K : PySem.W.Frag) : Sp := fun vs H Q _ => ∃ (a : Addr), vs = [.ref a] ∧ Src H a ∧ ∀ (s : Str) H', s.length ≤ 200 → Kp [a] H H' → Src H' a → Q (.str s) H'
theorem ok__law_string (T : Txt K mg A D) : FnOk P w K mg base CX0 2 (A 18) (D 18) ["_law_source_here"] (sp__law_string K) := by
  refine T.F__law_string.ok sc__law_string (fun vs H Q E h => ?_) (fun cdv A' outer s H vs Q E hr h => ?_)
  · obtain ⟨a, rfl, hs, q⟩ := h
    rfl
  · obtain ⟨a, rfl, hs, q⟩ := h
    have hu := hu_of hr
    have G__law_draw : FnOk P w K mg base CX0 1 (A 17) (D 17) ["_law_source_here", "_law_limit"] (sp__law_draw K) := ok__law_draw T
    refine ⟨_, (pss_cons (ps_set (i := 1) sc__law_string.nd rfl (Or.inl rfl) (pe_call G__law_draw (hr.mono (by decide)) rfl T.g__law_draw T.F__law_draw.kp T.b__law_draw .nil pass0 (pa_cons (pv 0) (pa_cons pe_int pa_nil))))
      (pss_cons (ps_if (pt_cmpR op_eq (pv 1) pe_int (nomark _))
        (pss_cons (ps_set (i := 2) sc__law_string.nd rfl (Or.inl rfl) (pe_op op_add (pe_op op_mul (pe_call G__law_draw (hr.mono (by decide)) rfl T.g__law_draw T.F__law_draw.kp T.b__law_draw .nil pass0 (pa_cons (pv 0) (pa_cons (pe_op op_pow pe_int pe_int) pa_nil))) (pe_ix (xK_list (K := K) rfl) (pe_lst (pa_cons pe_int (pa_cons pe_int (pa_cons (pe_op op_pow pe_int pe_int) pa_nil)))) (pe_call G__law_draw (hr.mono (by decide)) rfl T.g__law_draw T.F__law_draw.kp T.b__law_draw .nil pass0 (pa_cons (pv 0) (pa_cons pe_int pa_nil))) (fun _ _ => rfl))) (pe_call G__law_draw (hr.mono (by decide)) rfl T.g__law_draw T.F__law_draw.kp T.b__law_draw .nil pass0 (pa_cons (pv 0) (pa_cons (pe_op op_pow pe_int pe_int) pa_nil)))))
        (pss_one (ps_ret (pe_op op_add_str (pe_op op_rep_str pe_str (pe_call G__law_draw (hr.mono (by decide)) rfl T.g__law_draw T.F__law_draw.kp T.b__law_draw .nil pass0 (pa_cons (pv 0) (pa_cons pe_int pa_nil)))) (pe_callTy (T := "str") call_str_int (by rfl) T.z_str (by decide +kernel) (pa_cons (pv 2) pa_nil))))))
        pss_nil)
      (pss_cons (ps_set (i := 3) sc__law_string.nd rfl (Or.inl rfl) pe_str)
      (C8.pss_cut (ps_if (pt_cmpR op_eq (pv 1) pe_int (nomark _))
        (pss_one (ps_set (i := 3) sc__law_string.nd rfl (Or.inl rfl) (pe_op op_rep_str pe_str (pe_call G__law_draw (hr.mono (by decide)) rfl T.g__law_draw T.F__law_draw.kp T.b__law_draw .nil pass0 (pa_cons (pv 0) (pa_cons pe_int pa_nil))))))
        pss_nil)
      (pss_cons (ps_for PassesOwn.never rfl (pi_range1 rfl T.z_range (pa_cons (pe_ix (xK_list (K := K) rfl) (pe_lst (pa_cons pe_int (pa_cons pe_int (pa_cons (pe_call G__law_draw (hr.mono (by decide)) rfl T.g__law_draw T.F__law_draw.kp T.b__law_draw .nil pass0 (pa_cons (pv 0) (pa_cons pe_int pa_nil))) pa_nil)))) (pe_call G__law_draw (hr.mono (by decide)) rfl T.g__law_draw T.F__law_draw.kp T.b__law_draw .nil pass0 (pa_cons (pv 0) (pa_cons pe_int pa_nil))) (fun _ _ => rfl)) pa_nil)) (pg_name (i := 4) sc__law_string.nd rfl (Or.inl rfl))
        (pss_one (ps_if (pt_cmpR op_eq (pv 1) pe_int (nomark _))
          (pss_one (ps_set (i := 3) sc__law_string.nd rfl (Or.inl rfl) (pe_op op_add_str (pv 3) (pe_ix ix_str pe_str (pe_call G__law_draw (hr.mono (by decide)) rfl T.g__law_draw T.F__law_draw.kp T.b__law_draw .nil pass0 (pa_cons (pv 0) (pa_cons pe_int pa_nil))) (fun _ _ => rfl)))))
          (pss_one (ps_set (i := 3) sc__law_string.nd rfl (Or.inl rfl) (pe_op op_add_str (pv 3) (pe_ix ix_str pe_str (pe_call G__law_draw (hr.mono (by decide)) rfl T.g__law_draw T.F__law_draw.kp T.b__law_draw .nil pass0 (pa_cons (pv 0) (pa_cons pe_int pa_nil))) (fun _ _ => rfl))))))))
      (pss_one (ps_ret (pv 3)))))))), ?_⟩
    walk_at "st"
    refine ⟨_, rfl, a, 4, rfl, hs, by decide, by decide, fun ch H1 c0 c1 k1 s1 => ?_⟩
    walk_at "st"
    refine ⟨_, rfl, rfl, _, rfl, ?_⟩
    refine ite2 (fun _ => ?_) (fun _ => ?_)
    · walk_at "st"
      refine ⟨_, rfl, _, _, rfl, rfl, ⟨by decide, by decide, by decide⟩, a, _, rfl, s1, by decide, by decide, fun r2 H2 a0 a1 k2 s2 => ?_⟩
      refine ⟨_, _, rfl, rfl, ⟨by decide, by decide, by decide⟩, sz (by simp), fun l hl => ?_⟩
      have la := src_ne s2 hl
      have kl := fun o => Kp.new (A := []) (o := o) hl
      refine ⟨_, rfl, a, 3, rfl, s2.kp (kl _) List.not_mem_nil, by decide, by decide, fun r3 H3 b0 b1 k3 s3 => ?_⟩
      obtain ⟨m, hm, hat⟩ := at_list (xs := [V.int 0, .int 1, .int (10 ^ Int.toNat 50)]) b0 b1
      obtain ⟨mi, rfl, hmi⟩ : ∃ mi : Int, m = .int mi ∧ (mi = 0 ∨ mi = 1 ∨ mi = 10 ^ 50) := by
        simp only [List.mem_cons, List.not_mem_nil, or_false] at hm
        rcases hm with h | h | h
        · exact ⟨0, h, .inl rfl⟩
        · exact ⟨1, h, .inr (.inl rfl)⟩
        · exact ⟨_, h, .inr (.inr (by decide))⟩
      have e9 : (10 : Int) ^ Int.toNat 9 = 1000000000 := by decide
      rw [e9] at a1
      refine ⟨l, _, _, _, rfl, rfl, SqL.of (k3.get upd_same (.inl (by simpa using la))), hat, _, _, rfl, rfl, .inl ⟨by omega, by omega⟩, ?_⟩
      refine ⟨_, rfl, _, _, rfl, rfl, ⟨by decide, by decide, by decide⟩, a, _, rfl, s3, by decide, by decide, fun r4 H4 d0 d1 k4 s4 => ?_⟩
      rw [e9] at d1
      refine ⟨_, _, rfl, rfl, ?_⟩
      have small : (r2 * mi + r4).natAbs < 10 ^ 70 := by
        have h50 : (10 : Int) ^ 50 = 100000000000000000000000000000000000000000000000000 := by decide
        have h70 : (10 : Nat) ^ 70 = 10000000000000000000000000000000000000000000000000000000000000000000000 := by decide
        rw [h70]
        rcases hmi with h | h | h
        · subst h; omega
        · subst h; omega
        · rw [h50] at h; subst h; omega
      walk_at "st"
      refine ⟨_, rfl, a, 2, rfl, s4, by decide, by decide, fun r5 H5 f0 f1 k5 s5 => ?_⟩
      refine ⟨_, _, rfl, rfl, f0, by omega, by decide, fun z hz => ?_⟩
      refine ⟨_, rfl, _, rfl, num_log small, ?_⟩
      have zl : z.length ≤ 2 := by
        rw [TL.len_tl, hz, tl_minus]
        simp; omega
      have nl := num_len small
      refine ⟨_, _, rfl, rfl, sz (by omega), ?_⟩
      refine q _ _ ?_ ((((k1.trans k2).trans ((kl _).nil.trans k3)).trans k4).trans k5) s5
      rw [TL.len_tl, TL.tl_append, List.length_append, ← TL.len_tl, ← TL.len_tl]
      omega
    · walk_at "set"
      refine cutK (fun σ H' => ∃ t : Str, σ = [some (.ref a), some (.int ch), none, some (.str t), none] ∧ t.length ≤ 1 ∧ Kp [a] H H' ∧ Src H' a) ?_ ?_
      · refine if_anK ?_
        refine ⟨_, rfl, rfl, _, rfl, ?_⟩
        refine ite2 (fun _ => ?_) (fun _ => ?_)
        · walk_at "st"
          refine ⟨_, rfl, a, 2, rfl, s1, by decide, by decide, fun r5 H5 f0 f1 k5 s5 => ?_⟩
          refine ⟨_, _, rfl, rfl, f0, by omega, by decide, fun z hz => ?_⟩
          refine ⟨z, rfl, ?_, k1.trans k5, s5⟩
          rw [TL.len_tl, hz, tl_minus]
          simp; omega
        · exact ⟨_, rfl, by decide, k1, s1⟩
      clear k1 s1
      rintro σ H1 ⟨t, rfl, tl, k1, s1⟩
      refine seq_forK ?_
      refine ⟨_, rfl, a, 8, rfl, s1, by decide, by decide, fun r2 H2 a0 a1 k2 s2 => ⟨sz (by simp), fun l hl => ?_⟩⟩
      have la := src_ne s2 hl
      have kl := fun o => Kp.new (A := []) (o := o) hl
      refine ⟨_, rfl, a, 3, rfl, s2.kp (kl _) List.not_mem_nil, by decide, by decide, fun r3 H3 b0 b1 k3 s3 => ?_⟩
      obtain ⟨m, hm, hat⟩ := at_list (xs := [V.int 1, .int 2, .int r2]) b0 b1
      obtain ⟨mi, rfl, h0, h8⟩ : ∃ mi : Int, m = .int mi ∧ 0 ≤ mi ∧ mi ≤ 8 := by
        simp only [List.mem_cons, List.not_mem_nil, or_false] at hm
        rcases hm with h | h | h
        · exact ⟨1, h, by decide, by decide⟩
        · exact ⟨2, h, by decide, by decide⟩
        · exact ⟨_, h, a0, by omega⟩
      refine ⟨l, _, _, _, rfl, rfl, SqL.of (k3.get upd_same (.inl (by simpa using la))), hat, _, rfl, by omega, by omega, for_seq walk_range (fun i σ H' => ∃ (t : Str) (v4 : Option V), σ = [some (.ref a), some (.int ch), none, some (.str t), v4] ∧ t.length ≤ 1 + i ∧ Kp [a] H H' ∧ Src H' a)
        ⟨t, _, rfl, by omega, (k1.trans k2).trans ((kl _).nil.trans k3), s3⟩ (fun _ _ _ _ _ => trivial) ?_ ?_⟩
      · rintro i x σ H4 H5 hi ⟨t, v4, rfl, tl, k5, s5⟩ ⟨rfl, rfl⟩
        refine gnK ?_
        have one : ∀ c : Nat, (t ++ (⟨#[c]⟩ : Str)).length ≤ 1 + (i + 1) := fun c => by
          rw [TL.len_tl, TL.tl_append, List.length_append, ← TL.len_tl]
          have : (TL.tl (⟨#[c]⟩ : Str)).length = 1 := rfl
          omega
        refine if_anK ?_
        refine ⟨_, rfl, rfl, _, rfl, ?_⟩
        refine ite2 (fun _ => ?_) (fun _ => ?_)
        · walk_at "st"
          refine ⟨_, rfl, _, rfl, a, 11, rfl, s5, by decide, by decide, fun r H6 d0 d1 k6 s6 => ?_⟩
          obtain ⟨c, hc, _⟩ := sign_at (z := "00123456789") d0 (by rw [show (("00123456789" : Str).length : Int) = 11 by decide +kernel]; exact d1)
          refine ⟨_, _, c, rfl, rfl, by decide +kernel, hc, _, _, rfl, rfl, ?_, t ++ ⟨#[c]⟩, _, rfl, one c, k5.trans k6, s6⟩
          have : (⟨#[c]⟩ : Str).length = 1 := rfl
          exact sz (by omega)
        · walk_at "st"
          refine ⟨_, rfl, _, rfl, a, 17, rfl, s5, by decide, by decide, fun r H6 d0 d1 k6 s6 => ?_⟩
          obtain ⟨c, hc, _⟩ := sign_at (z := "0123456789-+ ._aA") d0 (by rw [show (("0123456789-+ ._aA" : Str).length : Int) = 17 by decide +kernel]; exact d1)
          refine ⟨_, _, c, rfl, rfl, by decide +kernel, hc, _, _, rfl, rfl, ?_, t ++ ⟨#[c]⟩, _, rfl, one c, k5.trans k6, s6⟩
          have : (⟨#[c]⟩ : Str).length = 1 := rfl
          exact sz (by omega)
      · rintro σ H4 ⟨t, v4, rfl, tl, k4, s4⟩
        walk_at "st"
        exact ⟨_, rfl, q t _ (by omega) k4 s4⟩
def sp__law_integer (K : PySem.W.Frag) : Sp := fun vs H Q _ => ∃ (s : Str), vs = [.str s] ∧ s.length ≤ 600 ∧ (isNumL (TL.tl s) = true → Q (.int (valL (TL.tl s))) H) ∧ (isNumL (TL.tl s) = false → Q .non H)
theorem ok__law_integer (T : Txt K mg A D) : FnOk P w K mg base CX0 1 (A 19) (D 19) ["_law_text"] (sp__law_integer K) := by
  refine T.F__law_integer.ok sc__law_integer (fun vs H Q E h => ?_) (fun cdv A' outer s H vs Q E hr h => ?_)
  · obtain ⟨s, rfl, hs, q1, q0⟩ := h
    rfl
  · obtain ⟨s, rfl, hs, q1, q0⟩ := h
    have hu := hu_of hr
    refine ⟨_, (pss_cons (ps_set (i := 1) sc__law_integer.nd rfl (Or.inl rfl) (pv 0))
      (C8.pss_cut (ps_if (pt_cmpR op_eq (pe_slice sl_str (pv 0) po_none (po_some pe_int)) pe_str (nomark _))
        (pss_one (ps_set (i := 1) sc__law_integer.nd rfl (Or.inl rfl) (pe_slice sl_str (pv 0) (po_some pe_int) po_none)))
        pss_nil)
      (pss_cons (ps_if (pt_cmpR op_eq (pv 1) pe_str (nomark _))
        (pss_one (ps_ret pe_non))
        pss_nil)
      (pss_cons (ps_for PassesOwn.never rfl (pi_str (pv 1)) (pg_name (i := 2) sc__law_integer.nd rfl (Or.inl rfl))
        (pss_one (ps_if (pt_cmpR op_notIn_sign (pv 2) pe_str rfl)
          (pss_one (ps_ret pe_non))
          pss_nil)))
      (pss_cons (ps_if (PW.pt (pw_and (pt_cmpR op_eq (pe_ix ix_str (pv 1) pe_int (fun _ _ => rfl)) pe_str (nomark _)) (pw_and1 (pt_cmpR op_ne (pv 0) pe_str (nomark _)))))
        (pss_one (ps_ret pe_non))
        pss_nil)
      (pss_cons (ps_set (i := 3) sc__law_integer.nd rfl (Or.inl rfl) pe_int)
      (pss_cons (ps_for PassesOwn.never rfl (pi_str (pv 1)) (pg_name (i := 2) sc__law_integer.nd rfl (Or.inl rfl))
        (pss_one (ps_set (i := 3) sc__law_integer.nd rfl (Or.inl rfl) (pe_op op_add (pe_op op_mul pe_int (pv 3)) (pe_bmS PySem.F.plainAttrs_str PySem.F.slot_str_index PySem.F.type_str_index (mt_indexX rfl takes0) pe_str (pa_cons (pv 2) pa_nil))))))
      (pss_cons (ps_if (pt_cmpR op_eq (pe_ix ix_str (pv 0) pe_int (fun _ _ => rfl)) pe_str (nomark _))
        (pss_one (ps_ret (pe_un un_neg (pv 3))))
        pss_nil)
      (pss_one (ps_ret (pv 3))))))))))), ?_⟩
    walk_at "set"
    refine cutK (fun σ H' => ∃ d : Str, σ = [some (.str s), some (.str d), none, none] ∧ H' = H ∧ TL.tl d = stripM (TL.tl s)) ?_ ?_
    · refine if_anK ?_
      refine ⟨_, rfl, 1, rfl, s, rfl, sz (by omega), rfl, _, rfl, ?_⟩
      have eq1 : (V.str (cutS s none (some 1)) = V.str "-") ↔ (TL.tl s).take 1 = [45] := by
        rw [V.str.injEq, ← tl_cut_head, ← tl_minus]
        exact ⟨fun e => by rw [e], fun e => TL.ext_tl e⟩
      refine ite2 (fun c => ?_) (fun c => ?_)
      · rw [decide_eq_true_eq, eq1] at c
        walk_at "st"
        refine ⟨_, rfl, 1, rfl, s, rfl, sz (by omega), _, rfl, rfl, ?_⟩
        rw [tl_cut_tail]
        cases h : TL.tl s with
        | nil => rw [h] at c; cases c
        | cons x r =>
          rw [h] at c
          have : x = 45 := by simpa using c
          subst this
          rfl
      · rw [decide_eq_true_eq, eq1] at c
        refine nextK ⟨s, rfl, rfl, (stripM_other fun r e => c (by rw [e]; rfl)).symm⟩
    rintro σ H1 ⟨d, rfl, rfl, ed⟩
    have tlE : TL.tl ("" : Str) = [] := by decide +kernel
    have tl0 : TL.tl ("0" : Str) = [48] := by decide +kernel
    have dl : d.length ≤ 600 := by
      have : (stripM (TL.tl s)).length ≤ (TL.tl s).length := by
        unfold stripM
        split
        · rename_i e; rw [e]; simp
        · exact Nat.le_refl _
      rw [TL.len_tl, ed]
      rw [TL.len_tl] at hs
      omega
    walk_at "if"
    · intro c
      walk_at "st"
      refine q0 ?_
      have : d = "" := by simpa using c
      unfold isNumL
      rw [← ed, this, tlE]; rfl
    · intro c
      have n1 : d ≠ "" := by simpa using c
      obtain ⟨x, r, hcr⟩ : ∃ x r, TL.tl d = x :: r := by
        cases h : TL.tl d with
        | nil => exact absurd (TL.ext_tl (h.trans tlE.symm)) n1
        | cons x r => exact ⟨x, r, rfl⟩
      have nE : (stripM (TL.tl s)).isEmpty = false := by rw [← ed, hcr]; rfl
      refine seq_forK ?_
      refine ⟨_, rfl, _, rfl, for_seq walk_str (fun i σ H' => H' = H1 ∧ (∃ v, σ = [some (.str s), some (.str d), v, none]) ∧ ∀ j c, j < i → d.cps[j]? = some c → isDig c = true) ⟨rfl, ⟨_, rfl⟩, fun j c z => by omega⟩ (fun _ _ _ _ _ => trivial) ?_ ?_⟩
      · rintro i v σ H2 H3 hi ⟨rfl, ⟨v2, rfl⟩, hall⟩ ⟨rfl, z, hz, rfl⟩
        refine gnK ?_
        refine if_anK ?_
        refine ⟨_, rfl, _, _, rfl, rfl, _, rfl, ?_⟩
        rw [mem_dig]
        refine ite2 (fun c5 => ?_) (fun c5 => ?_)
        · simp only [Bool.not_eq_true'] at c5
          walk_at "st"
          refine q0 ?_
          unfold isNumL
          have hf : (TL.tl d).all isDig = false := all_false (p := isDig) hz c5
          rw [← ed, hf, Bool.false_and, Bool.and_false]
        · simp only [Bool.not_eq_true', Bool.not_eq_false] at c5
          refine nextK ?_
          refine ⟨rfl, ⟨_, rfl⟩, fun j y hj e => ?_⟩
          rcases Nat.lt_succ_iff_lt_or_eq.mp hj with z' | z'
          · exact hall j y z' e
          · subst z'
            rw [hz] at e; cases e
            exact c5
      · rintro σ H2 ⟨rfl, ⟨v, rfl⟩, hall⟩
        have ha : (TL.tl d).all isDig = true := all_true (p := isDig) fun j y e => hall j y (Array.getElem?_eq_some_iff.mp e).1 e
        have h0 : atI d.cps.toList 0 = some x := by
          have : d.cps.toList = x :: r := hcr
          rw [this]
          exact atI_nat (j := 0) rfl
        have num : isNumL (TL.tl s) = !(decide (x = 48) && !decide (TL.tl s = [48])) := by
          unfold isNumL
          rw [nE, ← ed, ha, hcr]
          by_cases h : x = 48 <;> by_cases h' : TL.tl s = [48] <;> simp [h, h']
        refine seq_if0 (b := decide (x = 48) && !decide (TL.tl s = [48])) (an_and (an_cmp (x := .str ⟨#[x]⟩) (vl_op (vl_var rfl) vl_c fun Q q => ⟨_, _, _, rfl, rfl, sz (by omega), h0, q⟩) vl_c fun Q q => ⟨rfl, asB q ?_⟩) fun _ => an_cmp (vl_var rfl) vl_c fun Q q => ⟨rfl, asB q ?_⟩) (fun c2 => ?_) (fun c2 => ?_)
        · rw [decide_eq_decide, V.str.injEq]
          have : TL.tl (⟨#[x]⟩ : Str) = [x] := rfl
          exact ⟨fun e => TL.ext_tl (by rw [this, tl0, e]), fun e => by rw [e, tl0] at this; simpa using this.symm⟩
        · congr 1
          rw [decide_eq_decide, V.str.injEq]
          exact ⟨fun e => TL.ext_tl (e.trans tl0.symm), fun e => by rw [e]; exact tl0⟩
        · walk_at "st"
          exact q0 (by rw [num, c2]; rfl)
        · have good : isNumL (TL.tl s) = true := by rw [num, c2]; rfl
          walk_at "set"
          refine seq_forK ?_
          refine ⟨_, rfl, _, rfl, for_seq walk_str (fun i σ H' => H' = H2 ∧ (∃ v, σ = [some (.str s), some (.str d), v, some (.int ((digitsVal ((TL.tl d).take i) : Nat) : Int))])) ⟨rfl, ⟨v, rfl⟩⟩ (fun _ _ _ _ _ => trivial) ?_ ?_⟩
          · rintro i v σ H3 H4 hi ⟨rfl, ⟨v2, rfl⟩⟩ ⟨rfl, z, hz, rfl⟩
            refine gnK ?_
            walk_at "st"
            have dz : isDig z = true := hall i z hi hz
            have hz' : (TL.tl d)[i]? = some z := by
              show d.cps.toList[i]? = some z
              rw [Array.getElem?_toList]; exact hz
            refine ⟨_, rfl, _, _, rfl, rfl, .inl ⟨by decide, by decide⟩, rfl, _, rfl, _, _, rfl, rfl, fun k hk => ?_, fun hk => ?_⟩
            · rw [index_dig dz] at hk
              cases hk
              refine ⟨_, _, rfl, rfl, rfl, ⟨some (.str ⟨#[z]⟩), ?_⟩⟩
              have e : digitsVal ((TL.tl d).take (i + 1)) = digitsVal ((TL.tl d).take i) * 10 + (z - 48) := by
                rw [List.take_add_one, hz', Option.toList_some, PySem.NumText.digitsVal_snoc]
              rw [e, Int.natCast_add, Int.natCast_mul, Int.mul_comm]
              rfl
            · rw [index_dig dz] at hk; cases hk
          · rintro σ H3 ⟨rfl, ⟨v2, rfl⟩⟩
            have full : (TL.tl d).take d.cps.size = TL.tl d := List.take_of_length_le (by show d.cps.toList.length ≤ _; rw [Array.length_toList]; exact Nat.le_refl _)
            rw [full]
            have q2 := q1 good
            obtain ⟨y, t, hyt⟩ : ∃ y t, TL.tl s = y :: t := by
              cases h : TL.tl s with
              | nil => rw [ed, h] at hcr; cases hcr
              | cons y t => exact ⟨y, t, rfl⟩
            have h0' : atI s.cps.toList 0 = some y := by
              have : s.cps.toList = y :: t := hyt
              rw [this]
              exact atI_nat (j := 0) rfl
            have vl : valL (TL.tl s) = if y = 45 then -((digitsVal (TL.tl d) : Nat) : Int) else ((digitsVal (TL.tl d) : Nat) : Int) := by
              unfold valL
              rw [← ed, hyt]
              by_cases h : y = 45 <;> simp [h]
            refine seq_if0 (b := decide (y = 45)) (an_cmp (x := .str ⟨#[y]⟩) (vl_op (vl_var rfl) vl_c fun Q q => ⟨_, _, _, rfl, rfl, sz (by omega), h0', q⟩) vl_c fun Q q => ⟨rfl, asB q ?_⟩) (fun c3 => ?_) (fun c3 => ?_)
            · rw [decide_eq_decide, V.str.injEq]
              have : TL.tl (⟨#[y]⟩ : Str) = [y] := rfl
              exact ⟨fun e => TL.ext_tl (by rw [this, tl_minus, e]), fun e => by rw [e, tl_minus] at this; simpa using this.symm⟩
            · walk_at "st"
              rw [vl, if_pos (of_decide_eq_true c3)] at q2
              exact ⟨_, rfl, _, rfl, q2⟩
            · walk_at "st"
              rw [vl, if_neg (of_decide_eq_false c3)] at q2
              exact ⟨_, rfl, q2⟩
def sp__law_number (K : PySem.W.Frag) : Sp := fun vs H Q _ => ∃ (s : Str) (n : Int), vs = [.str s, .int n] ∧ s.length ≤ 600 ∧ (isNumL (TL.tl s) = true → Q (.int (valL (TL.tl s))) H) ∧
  (isNumL (TL.tl s) = false → ∀ p H', Kp [] H H' → H' p = some (.lst [.str "refused", .int n]) → Q (.ref p) H')
theorem ok__law_number (T : Txt K mg A D) : FnOk P w K mg base CX0 4 (A 20) (D 20) ["_law_text", "_law_at"] (sp__law_number K) := by
  refine T.F__law_number.ok sc__law_number (fun vs H Q E h => ?_) (fun cdv A' outer s H vs Q E hr h => ?_)
  · obtain ⟨s, n, rfl, hs, q1, q0⟩ := h
    rfl
  · obtain ⟨s, n, rfl, hs, q1, q0⟩ := h
    have hu := hu_of hr
    have G_parse_number : FnOk P w K mg base (L2.CX P w) 3 (A 11) (D 11) ["text", "line"] (sp_parse_number K (A 3)) := ok_parse_number T
    refine ⟨_, (pss_one (ps_try_as (i := 2) rfl rfl sc__law_number.nd rfl rfl ⟨rfl, by decide, .inl T.g_InvalidText⟩ takes0
        (fun W pn xe tk po => (pss_cons (ps_if (pt_cmpR op_eq (pv 1) pe_int (nomark _))
           (pss_one (ps_ret (pe_callSD G_parse_number (hr.mono (by decide)) rfl T.g_parse_number T.F_parse_number.kp T.b_parse_number.choose_spec.2 T.b_parse_number.choose_spec.1 (fun σ => passAt tk σ) (pa_cons (pv 0) pa_nil))))
           pss_nil)
         (pss_one (ps_ret (pe_callNS G_parse_number (hr.mono (by decide)) rfl T.g_parse_number T.F_parse_number.kp T.kn_parse_number (fun σ => passAt tk σ) (pa_cons (pv 0) pa_nil) (pk_cons (pv 1) pk_nil))))))
        (fun a oe cls d pn hz hf => (pss_cons (ps_if (PW.pt (pw_or (pt_not (pt_val (pe_callB (id := "isinstance") (call_isF T.E_InvalidText hz hf) (by rfl) T.z_isinstance (by decide +kernel) (pa_cons (pv 2) (pa_cons (pe_glob (v := .ref (A 1)) rfl T.g_ShadowError rfl) pa_nil))))) (pw_or1 (pt_val (pe_callB (id := "isinstance") (call_isF T.E_InvalidText hz hf) (by rfl) T.z_isinstance (by decide +kernel) (pa_cons (pv 2) (pa_cons (pe_glob (v := .ref (A 2)) rfl T.g_InvalidName rfl) pa_nil)))))))
           (pss_one (ps_ret (pe_lst (pa_cons pe_str pa_nil))))
           pss_nil)
         (pss_one (ps_ret (pe_lst (pa_cons pe_str (pa_cons (pe_xf T.E_InvalidText.xf T.E_InvalidText.no hz hf (pv 2)) pa_nil))))))))), ?_⟩
    refine if_an (b := decide (n = 1)) (an_cmp (vl_var rfl) vl_c fun Q q => ⟨rfl, asB q (by simp)⟩) (fun c => ?_) (fun c => ?_)
    · have e1 : n = 1 := by simpa using c
      subst e1
      refine ⟨_, rfl, s, 1, rfl, hs, q1, fun h d hd => ⟨true, T.x_InvalidText_InvalidText, fun _ a ha => ?_, fun q => nomatch q⟩⟩
      refine ⟨_, rfl, _, _, true, d, _, rfl, rfl, rfl, upd_same, .own _, T.k_InvalidText_ShadowError, true, rfl, ?_⟩
      refine iteF ?_
      refine ⟨_, rfl, _, _, false, d, _, rfl, rfl, rfl, upd_same, .own _, T.k_InvalidText_InvalidName, false, rfl, ?_⟩
      refine iteF ?_
      refine ⟨_, rfl, rfl, rfl, d, _, .int 1, rfl, upd_same, by simp [List.lookup], sz (by simp), fun p hp => ?_⟩
      exact q0 h p _ ((Kp.new (A := []) hd).trans (Kp.new hp)) upd_same
    · refine ⟨_, rfl, _, rfl, rfl, rfl, s, n, rfl, hs, q1, fun h d hd => ⟨true, T.x_InvalidText_InvalidText, fun _ a ha => ?_, fun q => nomatch q⟩⟩
      refine ⟨_, rfl, _, _, true, d, _, rfl, rfl, rfl, upd_same, .own _, T.k_InvalidText_ShadowError, true, rfl, ?_⟩
      refine iteF ?_
      refine ⟨_, rfl, _, _, false, d, _, rfl, rfl, rfl, upd_same, .own _, T.k_InvalidText_InvalidName, false, rfl, ?_⟩
      refine iteF ?_
      refine ⟨_, rfl, rfl, rfl, d, _, .int n, rfl, upd_same, by simp [List.lookup], sz (by simp), fun p hp => ?_⟩
      exact q0 h p _ ((Kp.new (A := []) hd).trans (Kp.new hp)) upd_same
def sp__law_names (K : PySem.W.Frag) : Sp := fun vs H Q _ => ∃ (a : Addr) (ws : List Str) (n : Int), vs = [.ref a, .int n] ∧ Sq K H a (ws.map V.str) ∧ ws.length < 100 ∧ (∀ w ∈ ws, w.length ≤ 100000) ∧
  (goodW ws = true → ∀ r H', Kp [] H H' → SqT K H' r (ws.map V.str) → Q (.ref r) H') ∧
  (goodW ws = false → ∀ p H', Kp [] H H' → H' p = some (.lst [.str "refused", .int n]) → Q (.ref p) H')
theorem ok__law_names (T : Txt K mg A D) : FnOk P w K mg base CX0 4 (A 24) (D 24) ["_law_words_here", "_law_at"] (sp__law_names K) := by
  refine T.F__law_names.ok sc__law_names (fun vs H Q E h => ?_) (fun cdv A' outer s H vs Q E hr h => ?_)
  · obtain ⟨a0, ws, n, rfl, hq, hl, hw, q1, q0⟩ := h
    rfl
  · obtain ⟨a0, ws, n, rfl, hq, hl, hw, q1, q0⟩ := h
    have hu := hu_of hr
    have G_parse_names : FnOk P w K mg base (L2.CX P w) 3 (A 14) (D 14) ["words", "line"] (sp_parse_names K (A 3)) := ok_parse_names T
    refine ⟨_, (pss_one (ps_try_as (i := 2) rfl rfl sc__law_names.nd rfl rfl ⟨rfl, by decide, .inl T.g_InvalidText⟩ takes0
        (fun W pn xe tk po => (pss_cons (ps_if (pt_cmpR op_eq (pv 1) pe_int (nomark _))
           (pss_one (ps_ret (pe_callSD G_parse_names (hr.mono (by decide)) rfl T.g_parse_names T.F_parse_names.kp T.b_parse_names.choose_spec.2 T.b_parse_names.choose_spec.1 (fun σ => passAt tk σ) (pa_cons (pv 0) pa_nil))))
           pss_nil)
         (pss_one (ps_ret (pe_callNS G_parse_names (hr.mono (by decide)) rfl T.g_parse_names T.F_parse_names.kp T.kn_parse_names (fun σ => passAt tk σ) (pa_cons (pv 0) pa_nil) (pk_cons (pv 1) pk_nil))))))
        (fun a oe cls d pn hz hf => (pss_cons (ps_if (PW.pt (pw_or (pt_not (pt_val (pe_callB (id := "isinstance") (call_isF T.E_InvalidText hz hf) (by rfl) T.z_isinstance (by decide +kernel) (pa_cons (pv 2) (pa_cons (pe_glob (v := .ref (A 1)) rfl T.g_ShadowError rfl) pa_nil))))) (pw_or1 (pt_val (pe_callB (id := "isinstance") (call_isF T.E_InvalidText hz hf) (by rfl) T.z_isinstance (by decide +kernel) (pa_cons (pv 2) (pa_cons (pe_glob (v := .ref (A 2)) rfl T.g_InvalidName rfl) pa_nil)))))))
           (pss_one (ps_ret (pe_lst (pa_cons pe_str pa_nil))))
           pss_nil)
         (pss_one (ps_ret (pe_lst (pa_cons pe_str (pa_cons (pe_xf T.E_InvalidText.xf T.E_InvalidText.no hz hf (pv 2)) pa_nil))))))))), ?_⟩
    refine if_an (b := decide (n = 1)) (an_cmp (vl_var rfl) vl_c fun Q q => ⟨rfl, asB q (by simp)⟩) (fun c => ?_) (fun c => ?_)
    · have e1 : n = 1 := by simpa using c
      subst e1
      refine ⟨_, rfl, a0, ws, 1, rfl, hq, hl, hw, q1, fun h d H1 k1 hd => ⟨true, T.x_InvalidText_InvalidText, fun _ a ha => ?_, fun q => nomatch q⟩⟩
      refine ⟨_, rfl, _, _, true, d, _, rfl, rfl, rfl, upd_same, .own _, T.k_InvalidText_ShadowError, true, rfl, ?_⟩
      refine iteF ?_
      refine ⟨_, rfl, _, _, false, d, _, rfl, rfl, rfl, upd_same, .own _, T.k_InvalidText_InvalidName, false, rfl, ?_⟩
      refine iteF ?_
      refine ⟨_, rfl, rfl, rfl, d, _, .int 1, rfl, upd_same, by simp [List.lookup], sz (by simp), fun p hp => ?_⟩
      exact q0 h p _ ((k1.trans (Kp.new (A := []) hd)).trans (Kp.new hp)) upd_same
    · refine ⟨_, rfl, _, rfl, rfl, rfl, a0, ws, n, rfl, hq, hl, hw, q1, fun h d H1 k1 hd => ⟨true, T.x_InvalidText_InvalidText, fun _ a ha => ?_, fun q => nomatch q⟩⟩
      refine ⟨_, rfl, _, _, true, d, _, rfl, rfl, rfl, upd_same, .own _, T.k_InvalidText_ShadowError, true, rfl, ?_⟩
      refine iteF ?_
      refine ⟨_, rfl, _, _, false, d, _, rfl, rfl, rfl, upd_same, .own _, T.k_InvalidText_InvalidName, false, rfl, ?_⟩
      refine iteF ?_
      refine ⟨_, rfl, rfl, rfl, d, _, .int n, rfl, upd_same, by simp [List.lookup], sz (by simp), fun p hp => ?_⟩
      exact q0 h p _ ((k1.trans (Kp.new (A := []) hd)).trans (Kp.new hp)) upd_same
def sp__law_number_right (K : PySem.W.Frag) : Sp := fun vs H Q _ => ∃ (a : Addr), vs = [.ref a] ∧ Src H a ∧ ∀ H', Kp [a] H H' → Q (.bl true) H'
theorem ok__law_number_right (T : Txt K mg A D) : FnOk P w K mg base CX0 5 (A 21) (D 21) ["_law_source_here"] (sp__law_number_right K) := by
  refine T.F__law_number_right.ok sc__law_number_right (fun vs H Q E h => ?_) (fun cdv A' outer s H vs Q E hr h => ?_)
  · obtain ⟨a, rfl, hs, q⟩ := h
    rfl
  · obtain ⟨a, rfl, hs, q⟩ := h
    have hu := hu_of hr
    have G__law_string : FnOk P w K mg base CX0 2 (A 18) (D 18) ["_law_source_here"] (sp__law_string K) := ok__law_string T
    have G__law_integer : FnOk P w K mg base CX0 1 (A 19) (D 19) ["_law_text"] (sp__law_integer K) := ok__law_integer T
    have G_is_number : FnOk P w K mg base CX0 1 (A 10) (D 10) ["text"] (sp_is_number K) := ok_is_number T
    have G__law_number : FnOk P w K mg base CX0 4 (A 20) (D 20) ["_law_text", "_law_at"] (sp__law_number K) := ok__law_number T
    have G__law_draw : FnOk P w K mg base CX0 1 (A 17) (D 17) ["_law_source_here", "_law_limit"] (sp__law_draw K) := ok__law_draw T
    refine ⟨_, (pss_cons (ps_set (i := 1) sc__law_number_right.nd rfl (Or.inl rfl) (pe_call G__law_string (hr.mono (by decide)) rfl T.g__law_string T.F__law_string.kp T.b__law_string .nil pass0 (pa_cons (pv 0) pa_nil)))
      (pss_cons (ps_set (i := 2) sc__law_number_right.nd rfl (Or.inl rfl) (pe_op op_add pe_int (pe_op op_mul (pe_call G__law_draw (hr.mono (by decide)) rfl T.g__law_draw T.F__law_draw.kp T.b__law_draw .nil pass0 (pa_cons (pv 0) (pa_cons pe_int pa_nil))) (pe_call G__law_draw (hr.mono (by decide)) rfl T.g__law_draw T.F__law_draw.kp T.b__law_draw .nil pass0 (pa_cons (pv 0) (pa_cons (pe_op op_pow pe_int pe_int) pa_nil))))))
      (pss_cons (ps_set (i := 3) sc__law_number_right.nd rfl (Or.inl rfl) (pe_call G__law_integer (hr.mono (by decide)) rfl T.g__law_integer T.F__law_integer.kp T.b__law_integer .nil pass0 (pa_cons (pv 1) pa_nil)))
      (pss_cons (ps_set (i := 4) sc__law_number_right.nd rfl (Or.inl rfl) (pe_call G_is_number (hr.mono (by decide)) rfl T.g_is_number T.F_is_number.kp T.b_is_number .nil pass0 (pa_cons (pv 1) pa_nil)))
      (pss_cons (ps_if (PW.pt (pw_or (pt_not (pt_val (pe_callB (id := "isinstance") (cK_isi (K := K) rfl) (by rfl) T.z_isinstance (by decide +kernel) (pa_cons (pv 4) (pa_cons (pe_bltn (v := .ty "bool") (u := .type "bool") (by rfl) T.z_bool (by decide +kernel) rfl) pa_nil))))) (pw_or1 (pt_cmpR op_ne (pv 4) (pe_cmpR op_notN (pv 3) pe_non (nomark _)) (nomark _)))))
        (pss_one (ps_ret pe_bl))
        pss_nil)
      (pss_cons (ps_set (i := 5) sc__law_number_right.nd rfl (Or.inl rfl) (pe_call G__law_number (hr.mono (by decide)) rfl T.g__law_number T.F__law_number.kp T.b__law_number .nil pass0 (pa_cons (pv 1) (pa_cons (pv 2) pa_nil))))
      (pss_cons (ps_if (pt_cmpR op_isN (pv 3) pe_non (nomark _))
        (pss_one (ps_ret (pe_cmpR (oP_eq (K := K) rfl hr.units) (pv 5) (pe_lst (pa_cons pe_str (pa_cons (pv 2) pa_nil))) (nomark _))))
        pss_nil)
      (pss_one (ps_ret (pe_and (pe_callB (id := "isinstance") (cK_isi (K := K) rfl) (by rfl) T.z_isinstance (by decide +kernel) (pa_cons (pv 5) (pa_cons (pe_bltn (v := .ty "int") (u := .type "int") (by rfl) T.z_int (by decide +kernel) rfl) pa_nil))) (pe_and (pe_not (pe_callB (id := "isinstance") (cK_isi (K := K) rfl) (by rfl) T.z_isinstance (by decide +kernel) (pa_cons (pv 5) (pa_cons (pe_bltn (v := .ty "bool") (u := .type "bool") (by rfl) T.z_bool (by decide +kernel) rfl) pa_nil)))) (pe_one (pe_cmpR op_eq (pv 5) (pv 3) (nomark _)))))))))))))), ?_⟩
    walk_at "st"
    refine ⟨_, rfl, a, rfl, hs, fun s H1 sl k1 s1 => ?_⟩
    walk_at "st"
    refine ⟨_, rfl, a, 3, rfl, s1, by decide, by decide, fun r2 H2 a0 a1 k2 s2 => ?_⟩
    refine ⟨_, rfl, _, _, rfl, rfl, ⟨by decide, by decide, by decide⟩, a, _, rfl, s2, by decide, by decide, fun r3 H3 b0 b1 k3 s3 => ?_⟩
    refine ⟨_, _, rfl, rfl, .inl ⟨by omega, by omega⟩, _, _, rfl, rfl, ?_⟩
    have kA : Kp [a] H H3 := (k1.trans k2).trans k3
    by_cases c : isNumL (TL.tl s) = true
    · walk_at "st"
      refine ⟨_, rfl, s, rfl, by omega, fun _ => ?_, fun h => by rw [c] at h; cases h⟩
      walk_at "st"
      refine ⟨_, rfl, s, rfl, by omega, ?_⟩
      rw [c]
      walk_at "st"
      refine ⟨_, rfl, _, _, _, _, true, rfl, .ty "bool", .base (.bl _), kit_ty (by decide +kernel), true, rfl, ?_⟩
      refine iteF ?_
      refine ⟨_, rfl, _, rfl, rfl, rfl, _, rfl, ?_⟩
      refine ite2 (fun h => by simp at h) (fun _ => ?_)
      walk_at "st"
      refine ⟨_, rfl, _, rfl, s, _, rfl, by omega, fun _ => ?_, fun h => by rw [c] at h; cases h⟩
      walk_at "st"
      refine ⟨_, rfl, rfl, _, rfl, ?_⟩
      refine ite2 (fun h => by simp at h) (fun _ => ?_)
      walk_at "st"
      refine ⟨_, rfl, _, _, _, _, true, rfl, .ty "int", .base (.int _), kit_ty (by decide +kernel), true, rfl, ?_⟩
      refine iteT ?_
      refine ⟨_, rfl, _, _, _, _, false, rfl, .ty "bool", .base (.int _), kit_ty (by decide +kernel), _, rfl, _, rfl, ?_⟩
      refine iteT ?_
      refine ⟨_, rfl, _, rfl, rfl, ?_⟩
      exact asB (q _ kA) (by simp)
    · have c' : isNumL (TL.tl s) = false := by simpa using c
      walk_at "st"
      refine ⟨_, rfl, s, rfl, by omega, fun h => absurd h c, fun _ => ?_⟩
      walk_at "st"
      refine ⟨_, rfl, s, rfl, by omega, ?_⟩
      rw [c']
      walk_at "st"
      refine ⟨_, rfl, _, _, _, _, true, rfl, .ty "bool", .base (.bl _), kit_ty (by decide +kernel), true, rfl, ?_⟩
      refine iteF ?_
      refine ⟨_, rfl, _, rfl, rfl, rfl, _, rfl, ?_⟩
      refine ite2 (fun h => by simp at h) (fun _ => ?_)
      walk_at "st"
      refine ⟨_, rfl, _, rfl, s, _, rfl, by omega, fun h => absurd h c, fun _ p H4 k4 e4 => ?_⟩
      walk_at "st"
      refine ⟨_, rfl, rfl, _, rfl, ?_⟩
      refine ite2 (fun _ => ?_) (fun h => by simp at h)
      walk_at "st"
      refine ⟨_, rfl, _, rfl, sz (by simp), fun l hl => ?_⟩
      have pl : ∀ n : Int, pln (.list [.str "refused", .int n]) := fun n => ⟨by simp [PyData.plain, PyData.plainAll], by simp [PyData.depth, PyData.depthAll]⟩
      have kl := fun o => Kp.new (A := []) (o := o) hl
      refine ⟨.list [.str "refused", .int _], .list [.str "refused", .int _], .lst (.inl (.inl ((kl _).get e4 (.inl List.not_mem_nil)))) (.cons (.str _) (.cons (.int _) .nil)), .lst (.inl (.inl upd_same)) (.cons (.str _) (.cons (.int _) .nil)), pl _, pl _, ?_⟩
      exact asB (q _ (kA.trans (k4.trans (kl _)).nil)) (SeqAt.eqv_refl_plain _ (pl _).1).symm
def sp__law_is_name (K : PySem.W.Frag) : Sp := fun vs H Q _ => ∃ (s : Str), vs = [.str s] ∧ s.length ≤ 100000 ∧ ∀ H', Kp [] H H' → Q (.bl (isFull s)) H'
theorem ok__law_is_name (T : Txt K mg A D) : FnOk P w K mg base CX0 1 (A 23) (D 23) ["_law_word"] (sp__law_is_name K) := by
  refine T.F__law_is_name.ok sc__law_is_name (fun vs H Q E h => ?_) (fun cdv A' outer s H vs Q E hr h => ?_)
  · obtain ⟨s, rfl, hs, q⟩ := h
    rfl
  · obtain ⟨s, rfl, hs, q⟩ := h
    have hu := hu_of hr
    refine ⟨_, (pss_cons (ps_for PassesOwn.never rfl (iK_list (K := K) rfl (pe_split (pv 0) pe_str)) (pg_name (i := 1) sc__law_is_name.nd rfl (Or.inl rfl))
        (pss_cons (ps_if (PW.pt (pw_or (pt_cmpR op_eq (pv 1) pe_str (nomark _)) (pw_or (pt_cmpR op_gt (pe_callB (id := "len") call_len_str (by rfl) T.z_len (by decide +kernel) (pa_cons (pv 1) pa_nil)) pe_int (nomark _)) (pw_or1 (pt_cmpR op_notIn_sign (pe_ix ix_str (pv 1) pe_int (fun _ _ => rfl)) pe_str rfl)))))
          (pss_one (ps_ret pe_bl))
          pss_nil)
        (pss_one (ps_for PassesOwn.never rfl (pi_str (pv 1)) (pg_name (i := 2) sc__law_is_name.nd rfl (Or.inl rfl))
          (pss_one (ps_if (pt_cmpR op_notIn_sign (pv 2) pe_str rfl)
            (pss_one (ps_ret pe_bl))
            pss_nil))))))
      (pss_one (ps_ret pe_bl))), ?_⟩
    refine ⟨_, rfl, ⟨_, rfl⟩, _, _, rfl, rfl, rfl, (by show s.length + 2 ≤ sizeLine; exact Nat.le_trans (Nat.add_le_add_right hs 2) (by decide)), fun p hp => ?_⟩
    have hL : SqL K (upd H p (.lst ((Txt.split s ".").map V.str))) p ((Txt.split s ".").map V.str) := SqL.of upd_same
    have no : ∀ x, x ∈ Txt.split s "." → isName x = false → isFull s = false := fun x hm c => by
      cases e : isFull s with
      | false => rfl
      | true =>
        have := List.all_eq_true.mp e x hm
        rw [c] at this; cases this
    have tlE : TL.tl ("" : Str) = [] := by decide +kernel
    refine ⟨_, rfl, ⟨_, hL⟩, for_it walk_list (fun i σ H' => H' = upd H p (.lst ((Txt.split s ".").map V.str)) ∧ (∃ v w, σ = [some (.str s), v, w]) ∧ ∀ (j : Nat) (x : Str), j < i → (Txt.split s ".")[j]? = some x → isName x = true) ⟨rfl, ⟨_, _, rfl⟩, fun j x z => by omega⟩ (fun i σ H' _ z => by obtain ⟨rfl, _⟩ := z; exact hL) ?_ ?_⟩
    · rintro i v σ H1 H2 hi ⟨rfl, ⟨u, w', rfl⟩, hall⟩ ⟨rfl, hv⟩
      rw [List.getElem?_map] at hv
      obtain ⟨x, hx, rfl⟩ := Option.map_eq_some_iff.mp hv
      have hm : x ∈ Txt.split s "." := List.mem_of_getElem? hx
      have xl : x.length ≤ 100000 := Nat.le_trans (split_short hm) hs
      refine gnK ?_
      refine seq_ifK0 ?_
      refine ⟨_, rfl, rfl, _, rfl, ?_⟩
      refine ite2 (fun c1 => ?_) (fun c1 => ?_)
      · refine iteT ?_
        have ex : x = "" := by simpa using c1
        exact asB (q _ (Kp.new hp)) (no x hm (by rw [ex]; unfold isName; rw [tlE]; rfl))
      · have ex : x ≠ "" := by simpa using c1
        have l1 : 0 < x.length := by
          rcases Nat.eq_zero_or_pos x.length with z | z
          · exfalso
            apply ex
            refine TL.ext_tl ?_
            rw [TL.len_tl] at z
            rw [List.length_eq_zero_iff.mp z, tlE]
          · exact z
        obtain ⟨c, hc, hat⟩ := atS l1
        refine ⟨_, rfl, x, rfl, sz xl, _, _, rfl, rfl, _, rfl, ?_⟩
        refine ite2 (fun c2 => ?_) (fun c2 => ?_)
        · refine iteT ?_
          exact asB (q _ (Kp.new hp)) (no x hm (isName_no fun z => by simp at c2; omega))
        · have l8 : x.length ≤ 8 := by simp at c2; omega
          refine ⟨_, rfl, _, _, c, rfl, rfl, sz xl, hat, _, _, rfl, rfl, _, rfl, ?_⟩
          rw [mem_let]
          refine ite2 (fun c3 => ?_) (fun c3 => ?_)
          · simp only [Bool.not_eq_true'] at c3
            exact asB (q _ (Kp.new hp)) (no x hm (by rw [isName_at hc l8, c3]; rfl))
          · simp only [Bool.not_eq_true', Bool.not_eq_false] at c3
            refine ⟨_, rfl, _, rfl, for_it walk_str (fun k σ H' => H' = upd H p (.lst ((Txt.split s ".").map V.str)) ∧ (∃ w, σ = [some (.str s), some (.str x), w]) ∧ ∀ j c, j < k → x.cps[j]? = some c → (isLet c || isDig c) = true) ⟨rfl, ⟨_, rfl⟩, fun j c z => by omega⟩ (fun _ _ _ _ _ => trivial) ?_ ?_⟩
            · rintro k y σ H3 H4 hk ⟨rfl, ⟨w, rfl⟩, hal⟩ ⟨rfl, d, hd, rfl⟩
              refine gnK ?_
              refine if_anK ?_
              refine ⟨_, rfl, _, _, rfl, rfl, _, rfl, ?_⟩
              rw [mem_ld]
              refine ite2 (fun c5 => ?_) (fun c5 => ?_)
              · simp only [Bool.not_eq_true'] at c5
                walk_at "st"
                exact asB (q _ (Kp.new hp)) (no x hm (by rw [isName_at hc l8, all_false hd c5, Bool.and_false]))
              · simp only [Bool.not_eq_true', Bool.not_eq_false] at c5
                refine nextK ⟨rfl, ⟨_, rfl⟩, fun j z hj e => ?_⟩
                rcases Nat.lt_succ_iff_lt_or_eq.mp hj with h | h
                · exact hal j z h e
                · subst h
                  rw [hd] at e; cases e
                  exact c5
            · rintro σ H3 ⟨rfl, ⟨w, rfl⟩, hal⟩
              refine ⟨rfl, ⟨_, _, rfl⟩, fun j y hj e => ?_⟩
              rcases Nat.lt_succ_iff_lt_or_eq.mp hj with z | z
              · exact hall j y z e
              · subst z
                rw [hx] at e; cases e
                rw [isName_at hc l8, c3, Bool.true_and]
                exact all_true fun j z e => hal j z (Array.getElem?_eq_some_iff.mp e).1 e
    · rintro σ H1 ⟨rfl, ⟨v, w, rfl⟩, hall⟩
      refine asB (q _ (Kp.new hp)) (List.all_eq_true.mpr fun x hx => ?_)
      obtain ⟨j, hj⟩ := List.mem_iff_getElem?.mp hx
      exact hall j x (by rw [List.length_map]; exact (List.getElem?_eq_some_iff.mp hj).1) hj
def sp__law_words (K : PySem.W.Frag) : Sp := fun vs H Q _ => ∃ (a : Addr), vs = [.ref a] ∧ Src H a ∧ ∀ (ws : List Str) p H', ws.length ≤ 5 → (∀ w ∈ ws, w.length ≤ 1000) → p ≠ a → Kp [a] H H' → Src H' a → H' p = some (.lst (ws.map V.str)) → Q (.ref p) H'
theorem ok__law_words (T : Txt K mg A D) : FnOk P w K mg base CX0 2 (A 22) (D 22) ["_law_source_here"] (sp__law_words K) := by
  refine T.F__law_words.ok sc__law_words (fun vs H Q E h => ?_) (fun cdv A' outer s H vs Q E hr h => ?_)
  · obtain ⟨a, rfl, hs, q⟩ := h
    rfl
  · obtain ⟨a, rfl, hs, q⟩ := h
    have hu := hu_of hr
    have G__law_draw : FnOk P w K mg base CX0 1 (A 17) (D 17) ["_law_source_here", "_law_limit"] (sp__law_draw K) := ok__law_draw T
    refine ⟨_, (pss_cons (ps_set (i := 1) sc__law_words.nd rfl (Or.inl rfl) (pe_lst pa_nil))
      (pss_cons (ps_for PassesOwn.never rfl (pi_range1 rfl T.z_range (pa_cons (pe_call G__law_draw (hr.mono (by decide)) rfl T.g__law_draw T.F__law_draw.kp T.b__law_draw .nil pass0 (pa_cons (pv 0) (pa_cons pe_int pa_nil))) pa_nil)) (pg_name (i := 2) sc__law_words.nd rfl (Or.inl rfl))
        (pss_cons (ps_set (i := 3) sc__law_words.nd rfl (Or.inl rfl) (pe_lst pa_nil))
        (pss_cons (ps_for PassesOwn.never rfl (pi_range1 rfl T.z_range (pa_cons (pe_op op_add pe_int (pe_op op_mul (pe_call G__law_draw (hr.mono (by decide)) rfl T.g__law_draw T.F__law_draw.kp T.b__law_draw .nil pass0 (pa_cons (pv 0) (pa_cons pe_int pa_nil))) (pe_call G__law_draw (hr.mono (by decide)) rfl T.g__law_draw T.F__law_draw.kp T.b__law_draw .nil pass0 (pa_cons (pv 0) (pa_cons pe_int pa_nil))))) pa_nil)) (pg_name (i := 4) sc__law_words.nd rfl (Or.inl rfl))
          (pss_cons (ps_set (i := 5) sc__law_words.nd rfl (Or.inl rfl) (pe_ix ix_str pe_str (pe_call G__law_draw (hr.mono (by decide)) rfl T.g__law_draw T.F__law_draw.kp T.b__law_draw .nil pass0 (pa_cons (pv 0) (pa_cons pe_int pa_nil))) (fun _ _ => rfl)))
          (pss_cons (ps_for PassesOwn.never rfl (pi_range1 rfl T.z_range (pa_cons (pe_ix (xK_list (K := K) rfl) (pe_lst (pa_cons pe_int (pa_cons pe_int (pa_cons pe_int pa_nil)))) (pe_call G__law_draw (hr.mono (by decide)) rfl T.g__law_draw T.F__law_draw.kp T.b__law_draw .nil pass0 (pa_cons (pv 0) (pa_cons pe_int pa_nil))) (fun _ _ => rfl)) pa_nil)) (pg_name (i := 6) sc__law_words.nd rfl (Or.inl rfl))
            (pss_one (ps_set (i := 5) sc__law_words.nd rfl (Or.inl rfl) (pe_op op_add_str (pv 5) (pe_ix ix_str pe_str (pe_call G__law_draw (hr.mono (by decide)) rfl T.g__law_draw T.F__law_draw.kp T.b__law_draw .nil pass0 (pa_cons (pv 0) (pa_cons pe_int pa_nil))) (fun _ _ => rfl))))))
          (pss_one (ps_expr (pe_bm PySem.F.plainAttrs_list PySem.F.slot_list_append PySem.F.type_list_append mt_append (pv 3) (pa_cons (pv 5) pa_nil)))))))
        (pss_cons (ps_set (i := 7) sc__law_words.nd rfl (Or.inl rfl) (pe_join pe_str (pv 3)))
        (C8.pss_cut (ps_if (pt_cmpR op_eq (pe_call G__law_draw (hr.mono (by decide)) rfl T.g__law_draw T.F__law_draw.kp T.b__law_draw .nil pass0 (pa_cons (pv 0) (pa_cons pe_int pa_nil))) pe_int (nomark _))
          (pss_one (ps_set (i := 7) sc__law_words.nd rfl (Or.inl rfl) (pe_ix (xK_list (K := K) rfl) (pe_lst (pa_cons pe_str (pa_cons pe_str (pa_cons pe_str (pa_cons pe_str (pa_cons pe_str (pa_cons pe_str (pa_cons pe_str (pa_cons pe_str (pa_cons pe_str (pa_cons pe_str (pa_cons pe_str pa_nil)))))))))))) (pe_call G__law_draw (hr.mono (by decide)) rfl T.g__law_draw T.F__law_draw.kp T.b__law_draw .nil pass0 (pa_cons (pv 0) (pa_cons pe_int pa_nil))) (fun _ _ => rfl))))
          pss_nil)
        (C8.pss_cut (ps_if (PW.pt (pw_and (pt_cmpR op_gt (pv 2) pe_int (nomark _)) (pw_and1 (pt_cmpR op_eq (pe_call G__law_draw (hr.mono (by decide)) rfl T.g__law_draw T.F__law_draw.kp T.b__law_draw .nil pass0 (pa_cons (pv 0) (pa_cons pe_int pa_nil))) pe_int (nomark _)))))
          (pss_one (ps_set (i := 7) sc__law_words.nd rfl (Or.inl rfl) (pe_ix (xK_list (K := K) rfl) (pv 1) pe_int (fun _ _ => rfl))))
          pss_nil)
        (pss_one (ps_expr (pe_bm PySem.F.plainAttrs_list PySem.F.slot_list_append PySem.F.type_list_append mt_append (pv 1) (pa_cons (pv 7) pa_nil))))))))))
      (C8.pss_cut (ps_if (pt_cmpR op_gt (pe_call G__law_draw (hr.mono (by decide)) rfl T.g__law_draw T.F__law_draw.kp T.b__law_draw .nil pass0 (pa_cons (pv 0) (pa_cons pe_int pa_nil))) pe_int (nomark _))
        (pss_one (ps_set (i := 1) sc__law_words.nd rfl (Or.inl rfl) (pe_callB (id := "sorted") (cK_sortedS (K := K) rfl) (by rfl) T.z_sorted (by decide +kernel) (pa_cons (pv 1) pa_nil))))
        pss_nil)
      (pss_one (ps_ret (pv 1)))))), ?_⟩
    walk_at "st"
    refine ⟨sz (by simp), fun p hp => ?_⟩
    have pa := src_ne hs hp
    have nip : p ∉ [a] := by simpa using pa
    refine seq_forK ?_
    refine ⟨_, rfl, a, 6, rfl, hs.kp (Kp.new (A := []) hp) List.not_mem_nil, by decide, by decide, fun r H1 r0 r1 k1 s1 => ?_⟩
    refine ⟨_, rfl, by omega, by omega, for_seq walk_range (fun i σ H' => ∃ (ws : List Str) (v2 v3 v4 v5 v6 v7 : Option V), σ = [some (.ref a), some (.ref p), v2, v3, v4, v5, v6, v7] ∧ H' p = some (.lst (ws.map V.str)) ∧ ws.length = i ∧ (∀ w ∈ ws, w.length ≤ 1000) ∧ Kp [a] H H' ∧ Src H' a)
      ⟨[], _, _, _, _, _, _, rfl, k1.get upd_same (.inl nip), rfl, (fun w h => nomatch h), (Kp.new hp).trans k1, s1⟩ (fun _ _ _ _ _ => trivial) ?_ ?_⟩
    · rintro i v σ H2 H3 hi ⟨ws, v2, v3, v4, v5, v6, v7, rfl, h3, hl, hws, k3, s3⟩ ⟨rfl, rfl⟩
      walk_at "st"
      refine ⟨sz (by simp), fun q' hq => ?_⟩
      have qa := src_ne s3 hq
      have qp : p ≠ q' := ne_of_none h3 hq
      refine seq_forK ?_
      refine ⟨_, rfl, a, 2, rfl, s3.kp (Kp.new (A := []) hq) List.not_mem_nil, by decide, by decide, fun r2 H4 a0 a1 k4 s4 => ?_⟩
      refine ⟨_, rfl, a, 3, rfl, s4, by decide, by decide, fun r3 H5 b0 b1 k5 s5 => ?_⟩
      have hb : 0 ≤ r2 * r3 ∧ r2 * r3 ≤ 2 := by
        rcases (by omega : r2 = 0 ∨ r2 = 1) with h | h
        · subst h; simp
        · subst h; omega
      have k5' : Kp [a] H3 H5 := (Kp.new hq).trans (k4.trans k5)
      have q5 : H5 q' = some (.lst []) := (k4.trans k5).get upd_same (.inl (by simpa using qa))
      refine ⟨_, _, rfl, rfl, .inl ⟨by omega, by omega⟩, _, _, rfl, rfl, _, rfl, by omega, by omega, for_seq walk_range (fun j σ H' => ∃ (ps : List Str) (u4 u5 u6 : Option V), σ = [some (.ref a), some (.ref p), some (.int (0 + (i : Int))), some (.ref q'), u4, u5, u6, v7] ∧ H' q' = some (.lst (ps.map V.str)) ∧ ps.length = j ∧ (∀ w ∈ ps, w.length ≤ 8) ∧ Kp [a] H3 H' ∧ Src H' a)
        ⟨[], _, _, _, rfl, q5, rfl, (fun w h => nomatch h), k5', s5⟩ (fun _ _ _ _ _ => trivial) ?_ ?_⟩
      · rintro j v σ H6 H7 hj ⟨ps, u4, u5, u6, rfl, q7, pl, hps, k7, s7⟩ ⟨rfl, rfl⟩
        walk_at "st"
        refine ⟨_, rfl, a, 26, rfl, s7, by decide, by decide, fun r8 H8 d0 d1 k8 s8 => ?_⟩
        obtain ⟨c, hc, _⟩ := sign_at (z := "abcdefghijklmnopqrstuvwxyz") d0 (by rw [show (("abcdefghijklmnopqrstuvwxyz" : Str).length : Int) = 26 by decide +kernel]; exact d1)
        refine ⟨_, _, c, rfl, rfl, by decide +kernel, hc, ?_⟩
        refine seq_forK ?_
        refine ⟨sz (by simp), fun l hl' => ?_⟩
        have la := src_ne s8 hl'
        have kl := fun o => Kp.new (A := []) (o := o) hl'
        refine ⟨_, rfl, a, 3, rfl, s8.kp (kl _) List.not_mem_nil, by decide, by decide, fun r9 H9 e0 e1 k9 s9 => ?_⟩
        obtain ⟨m, hm, hat⟩ := at_list (xs := [V.int 0, .int 1, .int 7]) e0 e1
        obtain ⟨mi, rfl, h0, h7⟩ : ∃ mi : Int, m = .int mi ∧ 0 ≤ mi ∧ mi ≤ 7 := by
          simp only [List.mem_cons, List.not_mem_nil, or_false] at hm
          rcases hm with h | h | h <;> exact ⟨_, h, by decide, by decide⟩
        have k9' : Kp [a] H7 H9 := k8.trans ((kl _).nil.trans k9)
        refine ⟨l, _, _, _, rfl, rfl, SqL.of (k9.get upd_same (.inl (by simpa using la))), hat, _, rfl, by omega, by omega, for_seq walk_range (fun i' σ H' => ∃ (t : Str) (w6 : Option V), σ = [some (.ref a), some (.ref p), some (.int (0 + (i : Int))), some (.ref q'), some (.int (0 + (j : Int))), some (.str t), w6, v7] ∧ t.length ≤ 1 + i' ∧ Kp [a] H7 H' ∧ Src H' a)
          ⟨⟨#[c]⟩, _, rfl, Nat.le_refl _, k9', s9⟩ (fun _ _ _ _ _ => trivial) ?_ ?_⟩
        · rintro i' x σ H10 H11 hi' ⟨t, w6, rfl, tl, k11, s11⟩ ⟨rfl, rfl⟩
          refine gnK ?_
          walk_at "st"
          refine ⟨_, rfl, _, rfl, a, 10, rfl, s11, by decide, by decide, fun rr H12 f0 f1 k12 s12 => ?_⟩
          obtain ⟨c2, hc2, _⟩ := sign_at (z := "abcxyz0189") f0 (by rw [show (("abcxyz0189" : Str).length : Int) = 10 by decide +kernel]; exact f1)
          have l1 : (⟨#[c2]⟩ : Str).length = 1 := rfl
          refine ⟨_, _, c2, rfl, rfl, by decide +kernel, hc2, _, _, rfl, rfl, sz (by omega), t ++ ⟨#[c2]⟩, _, rfl, ?_, k11.trans k12, s12⟩
          rw [TL.len_tl, TL.tl_append, List.length_append, ← TL.len_tl]
          have : (TL.tl (⟨#[c2]⟩ : Str)).length = 1 := rfl
          omega
        · rintro σ H10 ⟨t, w6, rfl, tl, k10, s10⟩
          have q10 := k10.get q7 (.inl (by simpa using qa))
          walk_at "st"
          refine ⟨_, rfl, .inl ⟨rfl, _, SqL.of q10⟩, _, rfl, q', _, _, rfl, rfl, q10, szl (by rw [List.length_map]; omega), ?_⟩
          refine ⟨ps ++ [t], _, _, _, rfl, by rw [upd_same, List.map_append]; rfl, by simp [pl], fun w hw => ?_, (k7.trans k10).put hq, s10.kp (Kp.own (A := [q']) q10 rfl (by simp)) (by simpa using Ne.symm qa)⟩
          rcases List.mem_append.mp hw with h | h
          · exact hps w h
          · rw [List.mem_singleton.mp h]; omega
      · rintro σ H6 ⟨ps, u4, u5, u6, rfl, q6, pl, hps, k6, s6⟩
        have hL : SqL K H6 q' (ps.map V.str) := SqL.of q6
        have hps9 : ∀ w ∈ ps, w.length ≤ 9 := fun w hw => Nat.le_trans (hps w hw) (by decide)
        have b1 := sum_short hps9
        have b2 := join_short hps9
        have p3 : ps.length ≤ 3 := by omega
        walk_at "st"
        refine ⟨⟨_, rfl⟩, _, rfl, _, q', ps, rfl, rfl, .inl hL, (by rw [show ("." : Str).length = 1 by decide +kernel]; exact sz (by omega)), ?_⟩
        have jl : (Txt.join "." ps).length ≤ 1000 := by omega
        revert jl
        generalize Txt.join "." ps = w0
        intro jl
        have h6 := k6.get h3 (.inl nip)
        refine cutK (fun σ H' => ∃ (w : Str), σ = [some (.ref a), some (.ref p), some (.int (0 + (i : Int))), some (.ref q'), u4, u5, u6, some (.str w)] ∧ w.length ≤ 1000 ∧ Kp [a] H3 H' ∧ Src H' a) ?_ ?_
        · refine if_anK ?_
          refine ⟨_, rfl, a, 10, rfl, s6, by decide, by decide, fun r7 H7 a0 a1 k7 s7 => ?_⟩
          refine ⟨rfl, _, rfl, ?_⟩
          refine ite2 (fun _ => ?_) (fun _ => ?_)
          · walk_at "st"
            refine ⟨sz (by simp), fun l hl' => ?_⟩
            have la := src_ne s7 hl'
            have kl := fun o => Kp.new (A := []) (o := o) hl'
            refine ⟨_, rfl, a, 11, rfl, s7.kp (kl _) List.not_mem_nil, by decide, by decide, fun r8 H8 e0 e1 k8 s8 => ?_⟩
            obtain ⟨m, hm, hat⟩ := at_list (xs := [V.str "", .str "0", .str "-a", .str "A", .str "a.", .str ".a", .str "a..b", .str "abcdefghi", .str "9a", .str "a_b", .str "a b"]) e0 e1
            obtain ⟨w, rfl, hw⟩ : ∃ w : Str, m = .str w ∧ w.length ≤ 1000 := by
              simp only [List.mem_cons, List.not_mem_nil, or_false] at hm
              rcases hm with h | h | h | h | h | h | h | h | h | h | h <;> exact ⟨_, h, by decide +kernel⟩
            exact ⟨l, _, _, _, rfl, rfl, SqL.of (k8.get upd_same (.inl (by simpa using la))), hat, w, rfl, hw, (k6.trans k7).trans ((kl _).nil.trans k8), s8⟩
          · exact ⟨w0, rfl, jl, k6.trans k7, s7⟩
        clear k6 s6 h6 q6 hL jl
        rintro σ H7 ⟨w1, rfl, wl, k7, s7⟩
        refine cutK (fun σ H' => ∃ (w : Str), σ = [some (.ref a), some (.ref p), some (.int (0 + (i : Int))), some (.ref q'), u4, u5, u6, some (.str w)] ∧ w.length ≤ 1000 ∧ Kp [a] H3 H' ∧ Src H' a) ?_ ?_
        · refine if_anK ?_
          refine ⟨_, rfl, _, _, rfl, rfl, _, rfl, ?_⟩
          refine ite2 (fun c => ?_) (fun _ => ?_)
          · have i0 : 0 < i := by simpa using c
            refine ⟨_, rfl, a, 8, rfl, s7, by decide, by decide, fun r8 H8 a0 a1 k8 s8 => ?_⟩
            refine ⟨rfl, _, rfl, ?_⟩
            refine ite2 (fun _ => ?_) (fun _ => ?_)
            · walk_at "st"
              have h8 := (k7.trans k8).get h3 (.inl nip)
              obtain ⟨w, hw⟩ : ∃ w, ws[0]? = some w := ⟨_, List.getElem?_eq_getElem (by omega)⟩
              exact ⟨_, rfl, p, _, _, _, rfl, rfl, SqL.of h8, atI_nat (j := 0) (by rw [List.getElem?_map, hw]; rfl), w, rfl, hws w (List.mem_of_getElem? hw), k7.trans k8, s8⟩
            · exact ⟨w1, rfl, wl, k7.trans k8, s8⟩
          · refine iteF ?_
            exact ⟨w1, rfl, wl, k7, s7⟩
        clear k7 s7 wl
        rintro σ H7 ⟨w2, rfl, wl, k7, s7⟩
        have h7 := k7.get h3 (.inl nip)
        walk_at "st"
        refine ⟨_, rfl, .inl ⟨rfl, _, SqL.of h7⟩, _, rfl, p, _, _, rfl, rfl, h7, szl (by rw [List.length_map]; omega), ?_⟩
        refine ⟨ws ++ [w2], _, _, _, _, _, _, rfl, by rw [upd_same, List.map_append]; rfl, by simp [hl], fun w hw => ?_, (k3.trans k7).put hp, s7.kp (Kp.own (A := [p]) h7 rfl (by simp)) (by simpa using Ne.symm pa)⟩
        rcases List.mem_append.mp hw with h | h
        · exact hws w h
        · rw [List.mem_singleton.mp h]; exact wl
    · rintro σ H2 ⟨ws, v2, v3, v4, v5, v6, v7, rfl, h2, hl, hws, k2, s2⟩
      have wl : ws.length ≤ 5 := by omega
      refine cutK (fun σ H' => ∃ (ws : List Str) (p : Addr), σ = [some (.ref a), some (.ref p), v2, v3, v4, v5, v6, v7] ∧ ws.length ≤ 5 ∧ (∀ w ∈ ws, w.length ≤ 1000) ∧ p ≠ a ∧ H' p = some (.lst (ws.map V.str)) ∧ Kp [a] H H' ∧ Src H' a) ?_ ?_
      · refine if_anK ?_
        refine ⟨_, rfl, a, 3, rfl, s2, by decide, by decide, fun r8 H8 a0 a1 k8 s8 => ?_⟩
        have h8 := k8.get h2 (.inl nip)
        refine ⟨_, _, rfl, rfl, _, rfl, ?_⟩
        refine ite2 (fun _ => ?_) (fun _ => ?_)
        · walk_at "st"
          refine ⟨_, rfl, p, ws, rfl, SqL.of h8, by omega, fun ys t perm srt ht => ?_⟩
          exact ⟨ys, t, rfl, by rw [perm.length_eq]; exact wl, fun w hw => hws w (perm.mem_iff.mp hw), src_ne s8 ht, upd_same, (k2.trans k8).trans (Kp.new ht), s8.kp (Kp.new (A := []) ht) List.not_mem_nil⟩
        · exact ⟨ws, p, rfl, wl, hws, pa, h8, k2.trans k8, s8⟩
      rintro σ H3 ⟨ws', p', rfl, l', hw', pa', h3, k3, s3⟩
      walk_at "st"
      exact ⟨_, rfl, q ws' p' _ l' hw' pa' k3 s3 h3⟩
theorem strs_pln (ns : List Str) : pln (.tuple (ns.map .str)) ∧ pln (.list (ns.map .str)) := by
  have h1 : PyData.plainAll (ns.map .str) = true := by
    induction ns with
    | nil => rfl
    | cons x r ih => rw [List.map_cons, PyData.plainAll, ih]; rfl
  have h2 : PyData.depthAll (ns.map .str) ≤ 1 := depth_map fun x _ => by simp [PyData.depth]
  exact ⟨⟨by simp only [PyData.plain]; exact h1, by simp only [PyData.depth]; omega⟩, ⟨by simp only [PyData.plain]; exact h1, by simp only [PyData.depth]; omega⟩⟩
theorem tyx_tup {K : PySem.W.Frag} {H : Hp} {a : Addr} {xs : List V} (h : SqT K H a xs) : TyX K H (.ref a) (.type "tuple") := by
  rcases h with (h | ⟨z, h⟩) | h
  · exact .base (.tup h)
  · exact .fTuple h
  · obtain ⟨o, its, n, h1, h2, _⟩ := h
    exact .kTuple h1 h2
def sp__law_names_right (K : PySem.W.Frag) : Sp := fun vs H Q _ => ∃ (a : Addr), vs = [.ref a] ∧ Src H a ∧ ∀ H', Kp [a] H H' → Q (.bl true) H'
theorem ok__law_names_right (T : Txt K mg A D) : FnOk P w K mg base CX0 5 (A 25) (D 25) ["_law_source_here"] (sp__law_names_right K) := by
  refine T.F__law_names_right.ok sc__law_names_right (fun vs H Q E h => ?_) (fun cdv A' outer s H vs Q E hr h => ?_)
  · obtain ⟨a, rfl, hs, q⟩ := h
    rfl
  · obtain ⟨a, rfl, hs, q⟩ := h
    have hu := hu_of hr
    have G__law_words : FnOk P w K mg base CX0 2 (A 22) (D 22) ["_law_source_here"] (sp__law_words K) := ok__law_words T
    have G__law_names : FnOk P w K mg base CX0 4 (A 24) (D 24) ["_law_words_here", "_law_at"] (sp__law_names K) := ok__law_names T
    have G__law_draw : FnOk P w K mg base CX0 1 (A 17) (D 17) ["_law_source_here", "_law_limit"] (sp__law_draw K) := ok__law_draw T
    have G__law_is_name : FnOk P w K mg base CX0 1 (A 23) (D 23) ["_law_word"] (sp__law_is_name K) := ok__law_is_name T
    refine ⟨_, (pss_cons (ps_set (i := 1) sc__law_names_right.nd rfl (Or.inl rfl) (pe_call G__law_words (hr.mono (by decide)) rfl T.g__law_words T.F__law_words.kp T.b__law_words .nil pass0 (pa_cons (pv 0) pa_nil)))
      (pss_cons (ps_set (i := 2) sc__law_names_right.nd rfl (Or.inl rfl) (pe_op op_add pe_int (pe_op op_mul (pe_call G__law_draw (hr.mono (by decide)) rfl T.g__law_draw T.F__law_draw.kp T.b__law_draw .nil pass0 (pa_cons (pv 0) (pa_cons pe_int pa_nil))) (pe_call G__law_draw (hr.mono (by decide)) rfl T.g__law_draw T.F__law_draw.kp T.b__law_draw .nil pass0 (pa_cons (pv 0) (pa_cons (pe_op op_pow pe_int pe_int) pa_nil))))))
      (pss_cons (ps_set (i := 3) sc__law_names_right.nd rfl (Or.inl rfl) pe_bl)
      (pss_cons (ps_for PassesOwn.never rfl (pi_range1 rfl T.z_range (pa_cons (pe_callB (id := "len") (cK_len (K := K) rfl) (by rfl) T.z_len (by decide +kernel) (pa_cons (pv 1) pa_nil)) pa_nil)) (pg_name (i := 4) sc__law_names_right.nd rfl (Or.inl rfl))
        (pss_one (ps_if (PW.pt (pw_or (pt_not (pt_val (pe_call G__law_is_name (hr.mono (by decide)) rfl T.g__law_is_name T.F__law_is_name.kp T.b__law_is_name .nil pass0 (pa_cons (pe_ix (xK_list (K := K) rfl) (pv 1) (pv 4) (fun _ _ => rfl)) pa_nil)))) (pw_or1 (PW.pt (pw_and (pt_cmpR op_gt (pv 4) pe_int (nomark _)) (pw_and1 (pt_cmpR op_ge_str (pe_ix (xK_list (K := K) rfl) (pv 1) (pe_op op_sub (pv 4) pe_int) (fun _ _ => rfl)) (pe_ix (xK_list (K := K) rfl) (pv 1) (pv 4) (fun _ _ => rfl)) (nomark _))))))))
          (pss_one (ps_set (i := 3) sc__law_names_right.nd rfl (Or.inl rfl) pe_bl))
          pss_nil)))
      (pss_cons (ps_set (i := 5) sc__law_names_right.nd rfl (Or.inl rfl) (pe_callTy (T := "list") (cK_list (K := K) rfl) (by rfl) T.z_list (by decide +kernel) (pa_cons (pv 1) pa_nil)))
      (pss_cons (ps_set (i := 6) sc__law_names_right.nd rfl (Or.inl rfl) (pe_call G__law_names (hr.mono (by decide)) rfl T.g__law_names T.F__law_names.kp T.b__law_names .nil pass0 (pa_cons (pv 5) (pa_cons (pv 2) pa_nil))))
      (pss_cons (ps_if (PW.pt (pw_or (pt_cmpR (oP_ne (K := K) rfl hr.units) (pv 5) (pv 1) (nomark _)) (pw_or1 (pt_cmpR (oP_ne (K := K) rfl hr.units) (pe_call G__law_names (hr.mono (by decide)) rfl T.g__law_names T.F__law_names.kp T.b__law_names .nil pass0 (pa_cons (pe_callTy (T := "tuple") (cK_tuple (K := K) rfl) (by rfl) T.z_tuple (by decide +kernel) (pa_cons (pv 1) pa_nil)) (pa_cons (pv 2) pa_nil))) (pv 6) (nomark _)))))
        (pss_one (ps_ret pe_bl))
        pss_nil)
      (pss_cons (ps_if (pt_not (pt_val (pv 3)))
        (pss_one (ps_ret (pe_cmpR (oP_eq (K := K) rfl hr.units) (pv 6) (pe_lst (pa_cons pe_str (pa_cons (pv 2) pa_nil))) (nomark _))))
        pss_nil)
      (pss_one (ps_ret (pe_and (pe_callB (id := "isinstance") (cK_isi (K := K) rfl) (by rfl) T.z_isinstance (by decide +kernel) (pa_cons (pv 6) (pa_cons (pe_bltn (v := .ty "tuple") (u := .type "tuple") (by rfl) T.z_tuple (by decide +kernel) rfl) pa_nil))) (pe_one (pe_cmpR (oP_eq (K := K) rfl hr.units) (pe_callTy (T := "list") (cK_list (K := K) rfl) (by rfl) T.z_list (by decide +kernel) (pa_cons (pv 6) pa_nil)) (pv 1) (nomark _)))))))))))))), ?_⟩
    walk_at "st"
    refine ⟨_, rfl, a, rfl, hs, fun ws p H1 wl hw pa k1 s1 h1 => ?_⟩
    walk_at "st"
    refine ⟨_, rfl, a, 3, rfl, s1, by decide, by decide, fun r2 H2 a0 a1 k2 s2 => ?_⟩
    refine ⟨_, rfl, _, _, rfl, rfl, ⟨by decide, by decide, by decide⟩, a, _, rfl, s2, by decide, by decide, fun r3 H3 b0 b1 k3 s3 => ?_⟩
    refine ⟨_, _, rfl, rfl, .inl ⟨by omega, by omega⟩, _, _, rfl, rfl, ?_⟩
    have kA : Kp [a] H H3 := (k1.trans k2).trans k3
    have h3 : H3 p = some (.lst (ws.map V.str)) := (k2.trans k3).get h1 (.inl (by simpa using pa))
    walk_at "set"
    refine seq_forK ?_
    have rd : ∀ H' (k : Kp [] H3 H') (j : Nat) (z : Str) (i : Int) (Q : VK), ws[j]? = some z → i = (j : Int) → Q (.str z) H' → rIxL K (.ref p) (.int i) H' Q := fun H' k j z i Q hj hi q => by
      have hz : atI (ws.map V.str) i = some (.str z) := by rw [hi]; exact atI_nat (by rw [List.getElem?_map, hj]; rfl)
      exact ⟨p, _, _, _, rfl, rfl, SqL.of (k.get h3 (.inl List.not_mem_nil)), hz, q⟩
    refine ⟨_, rfl, _, ws.length, rfl, .inl ⟨_, SqL.of h3, by rw [List.length_map]⟩, _, rfl, by omega, by omega, for_seq walk_range (fun i σ H' => (∃ (v4 v5 v6 : Option V), σ = [some (.ref a), some (.ref p), some (.int (1 + r2 * r3)), some (.bl ((List.range i).all (okAt ws))), v4, v5, v6]) ∧ Kp [] H3 H')
      ⟨⟨_, _, _, rfl⟩, Kp.refl⟩ (fun _ _ _ _ _ => trivial) ?_ ?_⟩
    · rintro i x σ H4 H5 hi ⟨⟨v4, v5, v6, rfl⟩, k5⟩ ⟨rfl, rfl⟩
      have hi' : i < ws.length := by omega
      obtain ⟨z, hz⟩ : ∃ z, ws[i]? = some z := ⟨_, List.getElem?_eq_getElem hi'⟩
      have gz : ws.getD i "" = z := by rw [List.getD_eq_getElem?_getD, hz]; rfl
      have stp : (List.range (i + 1)).all (okAt ws) = ((List.range i).all (okAt ws) && okAt ws i) := by rw [List.range_succ, List.all_append]; simp
      refine gnK ?_
      refine if_anK ?_
      refine ⟨_, rfl, _, rfl, rd H5 k5 i z _ _ hz (by omega) ?_⟩
      refine ⟨z, rfl, Nat.le_trans (hw z (List.mem_of_getElem? hz)) (by decide), fun H6 k6 => ?_⟩
      have k6' := k5.trans k6
      refine ⟨_, rfl, ?_⟩
      refine ite2 (fun c => ?_) (fun c => ?_)
      · simp only [Bool.not_eq_true'] at c
        refine iteT ?_
        walk_at "st"
        refine ⟨⟨some (.int (0 + (i : Int))), v5, v6, ?_⟩, k6'⟩
        rw [stp, show okAt ws i = false by unfold okAt; rw [gz, c]; rfl, Bool.and_false]
        rfl
      · simp only [Bool.not_eq_true', Bool.not_eq_false] at c
        refine ⟨_, rfl, _, _, rfl, rfl, _, rfl, ?_⟩
        refine ite2 (fun c2 => ?_) (fun c2 => ?_)
        · have i0 : 0 < i := by simpa using c2
          obtain ⟨y, hy⟩ : ∃ y, ws[i - 1]? = some y := ⟨_, List.getElem?_eq_getElem (by omega)⟩
          have gy : ws.getD (i - 1) "" = y := by rw [List.getD_eq_getElem?_getD, hy]; rfl
          have ok : okAt ws i = decide (slt y z) := by
            unfold okAt
            rw [gz, gy, c, decide_eq_false (by omega : ¬ i = 0)]; simp
          refine ⟨_, rfl, _, rfl, _, _, rfl, rfl, rd H6 k6' (i - 1) y _ _ hy (by omega) ?_⟩
          refine ⟨_, rfl, _, rfl, rd H6 k6' i z _ _ hz (by omega) ?_⟩
          refine ⟨_, _, rfl, rfl, _, rfl, ?_⟩
          refine ite2 (fun c3 => ?_) (fun c3 => ?_)
          · simp only [Bool.not_eq_true', decide_eq_false_iff_not] at c3
            walk_at "st"
            refine ⟨⟨some (.int (0 + (i : Int))), v5, v6, ?_⟩, k6'⟩
            rw [stp, ok, decide_eq_false (show ¬ slt y z from c3), Bool.and_false]
            rfl
          · simp only [Bool.not_eq_true', decide_eq_false_iff_not, Classical.not_not] at c3
            refine nextK ?_
            refine ⟨⟨some (.int (0 + (i : Int))), v5, v6, ?_⟩, k6'⟩
            rw [stp, ok, decide_eq_true (show slt y z from c3), Bool.and_true]
            rfl
        · have i0 : i = 0 := by
            have : ¬ (0 : Int) < 0 + (i : Int) := by simpa using c2
            omega
          refine iteF ?_
          refine nextK ?_
          refine ⟨⟨some (.int (0 + (i : Int))), v5, v6, ?_⟩, k6'⟩
          rw [stp, show okAt ws i = true by unfold okAt; rw [gz, c, decide_eq_true i0]; rfl, Bool.and_true]
          rfl
    · rintro σ H4 ⟨⟨v4, v5, v6, rfl⟩, k4⟩
      have h4 := k4.get h3 (.inl List.not_mem_nil)
      have kA4 : Kp [a] H H4 := kA.trans k4.nil
      have hw5 : ∀ w ∈ ws, w.length ≤ 100000 := fun w h => Nat.le_trans (hw w h) (by decide)
      walk_at "st"
      refine ⟨_, rfl, p, _, rfl, .inl (SqL.of h4), fun l hl => ?_⟩
      have kl := fun o => Kp.new (A := []) (o := o) hl
      have kAl : ∀ o, Kp [a] H (upd H4 l o) := fun o => kA4.trans (kl o).nil
      by_cases c : goodW ws = true
      · have cc : (List.range ws.length).all (okAt ws) = true := c
        have zz : ((ws.length : Nat) : Int).toNat = ws.length := by simp
        walk_at "st"
        refine ⟨_, rfl, _, rfl, l, ws, _, rfl, .inl (SqL.of upd_same), by omega, hw5, fun _ r H5 k5 h5 => ?_, fun h => by rw [c] at h; cases h⟩
        have p5 := ((kl _).trans k5).get h4 (.inl List.not_mem_nil)
        have l5 := k5.get (upd_same (H := H4) (a := l) (o := .lst (ws.map V.str))) (.inl List.not_mem_nil)
        walk_at "st"
        refine ⟨_, rfl, _, rfl, _, _, .lst (.inl (.inl l5)) (dv_strs (A := []) ws).dp, .lst (.inl (.inl p5)) (dv_strs (A := []) ws).dp, (strs_pln ws).2, (strs_pln ws).2, _, rfl, ?_⟩
        refine ite2 (fun h => absurd h (by rw [SeqAt.eqv_refl_plain _ (strs_pln ws).2.1]; simp)) (fun _ => ?_)
        refine ⟨_, rfl, p, _, rfl, .inl ⟨SqL.of p5, fun z hz => ?_⟩⟩
        have kz := fun o => Kp.new (A := []) (o := o) hz
        refine ⟨_, rfl, z, ws, _, rfl, .inr (SqT.of upd_same), by omega, hw5, fun _ r2' H6 k6 h6 => ?_, fun h => by rw [c] at h; cases h⟩
        have k56 := (kz (.tup (ws.map V.str))).trans k6
        have r5 := k56.sqT h5
        refine ⟨_, rfl, _, _, .tup h6 (dv_strs (A := []) ws).dp, .tup r5 (dv_strs (A := []) ws).dp, (strs_pln ws).1, (strs_pln ws).1, _, rfl, ?_⟩
        refine ite2 (fun h => absurd h (by rw [SeqAt.eqv_refl_plain _ (strs_pln ws).1.1]; simp)) (fun _ => ?_)
        refine seq_ifK0 ?_
        refine ⟨_, rfl, _, rfl, ?_⟩
        refine ite2 (fun h => by simp [cc] at h) (fun _ => ?_)
        walk_at "st"
        refine ⟨_, rfl, _, _, _, _, true, rfl, .ty "tuple", tyx_tup r5, kit_ty (by decide +kernel), true, rfl, ?_⟩
        refine iteT ?_
        refine ⟨_, rfl, r, _, rfl, .inr r5, fun m hm => ?_⟩
        have p6 := (k56.trans (Kp.new (o := .lst (ws.map V.str)) hm)).get p5 (.inl List.not_mem_nil)
        refine ⟨_, rfl, _, _, .lst (.inl (.inl upd_same)) (dv_strs (A := []) ws).dp, .lst (.inl (.inl p6)) (dv_strs (A := []) ws).dp, (strs_pln ws).2, (strs_pln ws).2, ?_⟩
        exact asB (q _ ((kAl _).trans (k5.trans (k56.trans (Kp.new hm))).nil)) (SeqAt.eqv_refl_plain _ (strs_pln ws).2.1).symm
      · have c' : goodW ws = false := by simpa using c
        have cc : (List.range ws.length).all (okAt ws) = false := c'
        have pl : ∀ n : Int, pln (.list [.str "refused", .int n]) := fun n => ⟨by simp [PyData.plain, PyData.plainAll], by simp [PyData.depth, PyData.depthAll]⟩
        have dr : ∀ (n : Int) (H' : Hp) (t : Addr), H' t = some (.lst [.str "refused", .int n]) → Dp K H' (.ref t) (.list [.str "refused", .int n]) := fun n H' t h => .lst (.inl (.inl h)) (.cons (.str _) (.cons (.int _) .nil))
        walk_at "st"
        refine ⟨_, rfl, _, rfl, l, ws, _, rfl, .inl (SqL.of upd_same), by omega, hw5, fun h => absurd h c, fun _ r H5 k5 h5 => ?_⟩
        have p5 := ((kl _).trans k5).get h4 (.inl List.not_mem_nil)
        have l5 := k5.get (upd_same (H := H4) (a := l) (o := .lst (ws.map V.str))) (.inl List.not_mem_nil)
        walk_at "st"
        refine ⟨_, rfl, _, rfl, _, _, .lst (.inl (.inl l5)) (dv_strs (A := []) ws).dp, .lst (.inl (.inl p5)) (dv_strs (A := []) ws).dp, (strs_pln ws).2, (strs_pln ws).2, _, rfl, ?_⟩
        refine ite2 (fun h => absurd h (by rw [SeqAt.eqv_refl_plain _ (strs_pln ws).2.1]; simp)) (fun _ => ?_)
        refine ⟨_, rfl, p, _, rfl, .inl ⟨SqL.of p5, fun z hz => ?_⟩⟩
        have kz := fun o => Kp.new (A := []) (o := o) hz
        refine ⟨_, rfl, z, ws, _, rfl, .inr (SqT.of upd_same), by omega, hw5, fun h => absurd h c, fun _ r2' H6 k6 h6 => ?_⟩
        have k56 := (kz (.tup (ws.map V.str))).trans k6
        have r5 := k56.get h5 (.inl List.not_mem_nil)
        refine ⟨_, rfl, _, _, dr _ _ _ h6, dr _ _ _ r5, pl _, pl _, _, rfl, ?_⟩
        refine ite2 (fun h => absurd h (by rw [SeqAt.eqv_refl_plain _ (pl _).1]; simp)) (fun _ => ?_)
        refine seq_ifK0 ?_
        refine ⟨_, rfl, _, rfl, ?_⟩
        refine ite2 (fun _ => ?_) (fun h => by simp [cc] at h)
        walk_at "st"
        refine ⟨_, rfl, _, rfl, sz (by simp), fun m hm => ?_⟩
        have km := fun o => Kp.new (A := []) (o := o) hm
        refine ⟨_, _, dr _ _ _ ((km _).get r5 (.inl List.not_mem_nil)), dr _ _ _ upd_same, pl _, pl _, ?_⟩
        exact asB (q _ ((kAl _).trans (k5.trans (k56.trans (km _))).nil)) (SeqAt.eqv_refl_plain _ (pl _).1).symm
def lineAt (w : Nat) (n : Int) (ls : List Str) (j : Nat) : Str := padL w (n + (j : Nat)) ++ (": " : Str) ++ ls.getD j ""
def widN (n : Int) (k : Nat) : Nat := (Str.ofString (toString (n + (k : Int) - 1))).length
def numL (n : Int) (ls : List Str) : List Str := (List.range ls.length).map (lineAt (widN n ls.length) n ls)
theorem txt_len {i : Int} (h0 : 0 ≤ i) (h1 : i < 10 ^ 6) : 1 ≤ (Str.ofString (toString i)).length ∧ (Str.ofString (toString i)).length ≤ 6 := by
  obtain ⟨m, rfl⟩ := Int.eq_ofNat_of_zero_le h0
  have e : (Str.ofString (toString ((m : Nat) : Int))).length = (Nat.toDigits 10 m).length := by
    rw [show (toString ((m : Nat) : Int)) = toString (Int.ofNat m) from rfl, text_ofNat]
    simp [Str.length]
  rw [e]
  exact ⟨tDigits_len_ge 10 m, digits10_le (by decide) (by omega)⟩
theorem padL_tl (w : Nat) {i : Int} (h0 : 0 ≤ i) : TL.tl (padL w i) = List.replicate (w - (Str.ofString (toString i)).length) 32 ++ TL.tl (Str.ofString (toString i)) := by
  obtain ⟨m, rfl⟩ := Int.eq_ofNat_of_zero_le h0
  rw [show (toString ((m : Nat) : Int)) = toString (Int.ofNat m) from rfl, text_ofNat]
  simp [padL, TL.tl, Str.length]
theorem padL_len {w : Nat} {i : Int} (h0 : 0 ≤ i) (h1 : i < 10 ^ 6) (h : w ≤ 9) : (padL w i).length ≤ 20 := by
  have := txt_len h0 h1
  have e := congrArg List.length (padL_tl w h0)
  rw [← TL.len_tl, List.length_append, List.length_replicate, ← TL.len_tl] at e
  omega
def sp_number_lines (K : PySem.W.Frag) : Sp := fun vs H Q _ => ∃ (a : Addr) (ls : List Str) (n : Int), vs = [.ref a, .int n] ∧ Sq K H a (ls.map V.str) ∧ ls.length ≤ 12 ∧ (∀ l ∈ ls, l.length ≤ 100) ∧ 0 ≤ n ∧ n < 20000 ∧
  ∀ r H', Kp [] H H' → SqT K H' r ((numL n ls).map V.str) → Q (.ref r) H'
theorem ok_number_lines (T : Txt K mg A D) : FnOk P w K mg base CX0 1 (A 12) (D 12) ["lines", "first"] (sp_number_lines K) := by
  refine T.F_number_lines.ok (CX := CX0) sc_number_lines (fun vs H Q E h => ?_) (fun cdv A' outer s H vs Q E hr h => ?_)
  · obtain ⟨a, ls, n, rfl, hq, hl, hw, n0, n1, q⟩ := h
    rfl
  · obtain ⟨a, ls, n, rfl, hq, hl, hw, n0, n1, q⟩ := h
    have hu := hu_of hr
    refine nox_ex ?_
    refine ⟨_, (pss_cons (ps_set (i := 2) sc_number_lines.nd rfl (Or.inr rfl) (pe_callB (id := "len") call_len_str (by rfl) T.z_len (by decide +kernel) (pa_cons (pe_callTy (T := "str") call_str_int (by rfl) T.z_str (by decide +kernel) (pa_cons (pe_op op_sub (pe_op op_add (pv 1) (pe_callB (id := "len") (cK_len (K := K) rfl) (by rfl) T.z_len (by decide +kernel) (pa_cons (pv 0) pa_nil))) pe_int) pa_nil)) pa_nil)))
      (pss_one (ps_ret (pe_callTy (T := "tuple") (cK_tuple (K := K) rfl) (by rfl) T.z_tuple (by decide +kernel) (pa_cons (pe_lc (own := [("number", 3), ("text", 4)])  (tt := tYes) rfl sc_number_lines.nd (pi_enumS (K := K) rfl (by rfl) T.z_enumerate (pa_cons (pv 0) pa_nil) (pk_cons (pv 1) pk_nil)) (blkOk_by (N := N_number_lines) (sc := defScope (topS 12)) (by decide +kernel)) (fun _ _ _ _ _ => (gK_tup (K := K) 2 rfl rfl (pgs_cons (pg_name (i := 3) sc_number_lines.nd rfl (Or.inl rfl)) (pgs_cons (pg_name (i := 4) sc_number_lines.nd rfl (Or.inl rfl)) pgs_nil)))) (fun _ _ _ _ _ => pts_nil) (fun _ _ _ _ _ => (pe_join2 (.cons (pe_fmtW (pv 3) (pe_join2 (.cons pe_str (.cons (pe_fmt (pv 2)) .nil)))) (.cons pe_str (.cons (pe_fmt (pv 4)) .nil)))))) pa_nil))))), ?_⟩
    have hL : LenV K (.ref a) H (ls.length) := hq.elim (fun h => .inl ⟨_, h, by rw [List.length_map]⟩) (fun h => .inr ⟨_, h, by rw [List.length_map]⟩)
    walk_at "st"
    have hlog : (n + ((ls.length : Nat) : Int) - 1).natAbs.log2 < 1920 := num_log (Nat.lt_of_lt_of_le (show _ < 10 ^ 6 by omega) (by decide))
    refine ⟨_, rfl, _, rfl, _, ls.length, rfl, hL, _, _, rfl, rfl, _, _, rfl, rfl, _, rfl, hlog, _, rfl, ?_, ?_⟩
    · have := num_len (i := n + ((ls.length : Nat) : Int) - 1) (Nat.lt_of_lt_of_le (show _ < 10 ^ 6 by omega) (by decide))
      exact sz (by omega)
    walk_at "st"
    obtain ⟨b, hb⟩ : ∃ b, SqB b K H a (ls.map V.str) := hq.elim (fun h => ⟨true, h⟩) (fun h => ⟨false, h⟩)
    refine ⟨_, rfl, _, rfl, b, a, _, n, rfl, rfl, hb, n0, by omega, fun p hp => lc_it (walk_enumS (b := b) (K := K) (k := n) (a := a) (xs := ls.map V.str)) (fun i H' => H' p = some (.lst (((List.range i).map (lineAt (widN n ls.length) n ls)).map V.str)) ∧ Kp [] H H')
      ⟨upd_same, Kp.new hp⟩ ?_ ?_ ?_⟩
    · rintro i H' _ ⟨_, k⟩
      cases b with
      | true => exact k.sqL List.not_mem_nil hb
      | false => exact k.sqT hb
    · rintro i x H1 H2 hi ⟨e1, k1⟩ ⟨T, c, y, rfl, hT, rfl, ec, ey⟩
      cases ec
      rw [List.length_map] at hi
      obtain ⟨z, hz⟩ : ∃ z, ls[i]? = some z := ⟨_, List.getElem?_eq_getElem hi⟩
      have gz : ls.getD i "" = z := by rw [List.getD_eq_getElem?_getD, hz]; rfl
      have ey' : y = .str z := by
        have : (ls.map V.str)[i]? = some y := ey
        rw [List.getElem?_map, hz] at this
        exact (Option.some.inj this).symm
      subst ey'
      have zl := hw z (List.mem_of_getElem? hz)
      have wl := txt_len (i := n + ((ls.length : Nat) : Int) - 1) (by omega) (by omega)
      have pl := padL_len (w := widN n ls.length) (i := n + (i : Nat)) (by omega) (by omega) (by unfold widN; omega)
      have pT : p ≠ T := fun e => by rw [e, hT] at e1; cases e1
      refine ⟨T, _, rfl, SqT.of upd_same, rfl, _, _, rfl, _, _, rfl, rfl, rfl, ?_⟩
      refine yesK ?_
      refine iteT ?_
      refine ⟨_, rfl, ">", rfl, by decide, _, rfl, .inr ⟨_, rfl, num_log (Nat.lt_of_lt_of_le (show _ < 10 ^ 6 by omega) (by decide)), _, rfl, ?_, ?_⟩⟩
      · have e : (Str.empty ++ (">" : Str) ++ Str.ofString (toString ((widN n ls.length : Nat) : Int))).length ≤ 10 := by
          have := txt_len (i := ((widN n ls.length : Nat) : Int)) (by omega) (by unfold widN; omega)
          rw [strLen_append, strLen_append, show (Str.empty).length = 0 from rfl, show (">" : Str).length = 1 by decide +kernel]
          omega
        exact sz (Nat.le_trans e (by decide))
      refine ⟨_, widN n ls.length, rfl, ?_, by unfold widN; omega, by unfold widN; omega, by omega, by omega, _, rfl, ?_, ": ", rfl, ?_, _, rfl, .inl ⟨z, rfl, sz (by omega), _, rfl, ?_, ?_⟩⟩
      · rw [Str.empty_append]; rfl
      · rw [Str.empty_append]; exact sz (by omega)
      · rw [Str.empty_append, strLen_append, show (": " : Str).length = 2 by decide +kernel]; exact sz (by omega)
      · rw [Str.empty_append, strLen_append, strLen_append, show (": " : Str).length = 2 by decide +kernel]; exact sz (by omega)
      refine ⟨_, (upd_ne pT).trans e1, szl (by simp; omega), ?_, (k1.trans (Kp.new hT)).put hp⟩
      rw [upd_same, List.range_succ, List.map_append, List.map_append, Str.empty_append]
      show some (HO.lst (_ ++ [V.str (padL (widN n ls.length) (n + (i : Nat)) ++ ": " ++ z)])) = some (HO.lst (_ ++ [V.str (lineAt (widN n ls.length) n ls i)]))
      unfold lineAt
      rw [gz]
    · rintro H1 ⟨e1, k1⟩
      refine ⟨p, _, rfl, .inl ⟨SqL.of e1, fun r hr => ?_⟩⟩
      rw [List.length_map]
      exact q r _ (k1.trans (Kp.new hr)) (SqT.of upd_same)
theorem tl_inj {x y : Str} (h : TL.tl x = TL.tl y) : x = y := Str.ext' (Array.ext' h)
theorem say_len {r : Int} (h0 : 0 ≤ r) (h1 : r < 6) : (cutS "say a" none (some r)).length ≤ 5 := by
  have : r = 0 ∨ r = 1 ∨ r = 2 ∨ r = 3 ∨ r = 4 ∨ r = 5 := by omega
  rcases this with h | h | h | h | h | h <;> subst h <;> decide +kernel
/-- what the law writes is what the program writes -/
theorem line_eq {z : Str} {w : Nat} {S : Int} {i : Nat} {ls : List Str} (h0 : 0 ≤ S) (hz : TL.tl z = (List.replicate (w - (Str.ofString (toString (S + (i : Nat)))).length) (TL.tl (" " : Str))).flatten) :
    z ++ Str.ofString (toString (S + (i : Nat))) ++ (": " : Str) ++ ls.getD i "" = lineAt w S ls i := by
  unfold lineAt
  refine congrArg (· ++ ls.getD i "") (congrArg (· ++ (": " : Str)) (tl_inj ?_))
  rw [TL.tl_append, padL_tl w (by omega), hz]
  congr 1
  rw [show TL.tl (" " : Str) = [32] by decide +kernel, List.flatten_replicate_singleton]
theorem txt_mono {i j : Int} (h0 : 0 ≤ i) (h : i ≤ j) : (Str.ofString (toString i)).length ≤ (Str.ofString (toString j)).length := by
  obtain ⟨m, rfl⟩ := Int.eq_ofNat_of_zero_le h0
  obtain ⟨k, rfl⟩ := Int.eq_ofNat_of_zero_le (Int.le_trans h0 h)
  have e : ∀ m : Nat, (Str.ofString (toString ((m : Nat) : Int))).length = (Nat.toDigits 10 m).length := fun m => by
    rw [show (toString ((m : Nat) : Int)) = toString (Int.ofNat m) from rfl, text_ofNat]
    simp [Str.length]
  rw [e, e]
  have g1 := tDigits_len_ge 10 k
  by_cases c : (Nat.toDigits 10 m).length ≤ 1
  · omega
  · have lo : 10 ^ ((Nat.toDigits 10 m).length - 1) ≤ m := by
      refine Nat.not_lt.mp fun q => ?_
      have := digits10_le (k := (Nat.toDigits 10 m).length - 1) (by omega) q
      omega
    have := digits10_ge (k := (Nat.toDigits 10 m).length - 1) (n := k) (Nat.le_trans lo (by omega))
    omega
theorem numL_len {n : Int} {ls : List Str} (h0 : 0 ≤ n) (h1 : n < 10 ^ 5) (hl : ls.length ≤ 12) : (numL n ls).length = ls.length := by
  unfold numL; simp
def sp__law_numbered_right (K : PySem.W.Frag) : Sp := fun vs H Q _ => ∃ (a : Addr), vs = [.ref a] ∧ Src H a ∧ ∀ H', Kp [a] H H' → Q (.bl true) H'
theorem ok__law_numbered_right (T : Txt K mg A D) : FnOk P w K mg base CX0 2 (A 26) (D 26) ["_law_source_here"] (sp__law_numbered_right K) := by
  refine T.F__law_numbered_right.ok sc__law_numbered_right (fun vs H Q E h => ?_) (fun cdv A' outer s H vs Q E hr h => ?_)
  · obtain ⟨a, rfl, hs, q⟩ := h
    rfl
  · obtain ⟨a, rfl, hs, q⟩ := h
    have hu := hu_of hr
    have G_number_lines : FnOk P w K mg base CX0 1 (A 12) (D 12) ["lines", "first"] (sp_number_lines K) := ok_number_lines T
    have G__law_draw : FnOk P w K mg base CX0 1 (A 17) (D 17) ["_law_source_here", "_law_limit"] (sp__law_draw K) := ok__law_draw T
    refine ⟨_, (pss_cons (ps_setLc (i := 2) (own := [("_law_k", 1)]) (g := gName 1) (tt := tYes) rfl sc__law_numbered_right.nd rfl rfl (sw_true rfl rfl rfl (by decide +kernel))  (pi_range1 rfl T.z_range (pa_cons (pe_call G__law_draw (hr.mono (by decide)) rfl T.g__law_draw T.F__law_draw.kp T.b__law_draw .nil pass0 (pa_cons (pv 0) (pa_cons pe_int pa_nil))) pa_nil)) (blkOk_by (N := N__law_numbered_right) (sc := defScope (topS 26)) (by decide +kernel)) (fun _ _ _ _ _ => (pg_name (i := 1) sc__law_numbered_right.nd rfl (Or.inl rfl))) (fun _ _ _ _ _ => pts_nil) (fun _ _ _ _ _ => (pe_slice sl_str pe_str po_none (po_some (pe_call G__law_draw (hr.mono (by decide)) rfl T.g__law_draw T.F__law_draw.kp T.b__law_draw .nil pass0 (pa_cons (pv 0) (pa_cons pe_int pa_nil)))))))
      (pss_cons (ps_set (i := 3) sc__law_numbered_right.nd rfl (Or.inl rfl) (pe_op op_add (pe_ix (xK_list (K := K) rfl) (pe_lst (pa_cons pe_int (pa_cons pe_int (pa_cons pe_int (pa_cons pe_int (pa_cons pe_int (pa_cons pe_int pa_nil))))))) (pe_call G__law_draw (hr.mono (by decide)) rfl T.g__law_draw T.F__law_draw.kp T.b__law_draw .nil pass0 (pa_cons (pv 0) (pa_cons pe_int pa_nil))) (fun _ _ => rfl)) (pe_op op_mul (pe_call G__law_draw (hr.mono (by decide)) rfl T.g__law_draw T.F__law_draw.kp T.b__law_draw .nil pass0 (pa_cons (pv 0) (pa_cons pe_int pa_nil))) (pe_call G__law_draw (hr.mono (by decide)) rfl T.g__law_draw T.F__law_draw.kp T.b__law_draw .nil pass0 (pa_cons (pv 0) (pa_cons pe_int pa_nil))))))
      (pss_cons (ps_set (i := 4) sc__law_numbered_right.nd rfl (Or.inl rfl) (pe_callTy (T := "str") call_str_int (by rfl) T.z_str (by decide +kernel) (pa_cons (pe_op op_sub (pe_op op_add (pv 3) (pe_callB (id := "len") (cK_len (K := K) rfl) (by rfl) T.z_len (by decide +kernel) (pa_cons (pv 2) pa_nil))) pe_int) pa_nil)))
      (pss_cons (ps_set (i := 5) sc__law_numbered_right.nd rfl (Or.inl rfl) (pe_lst pa_nil))
      (pss_cons (ps_for PassesOwn.never rfl (pi_range1 rfl T.z_range (pa_cons (pe_callB (id := "len") (cK_len (K := K) rfl) (by rfl) T.z_len (by decide +kernel) (pa_cons (pv 2) pa_nil)) pa_nil)) (pg_name (i := 1) sc__law_numbered_right.nd rfl (Or.inl rfl))
        (pss_cons (ps_set (i := 6) sc__law_numbered_right.nd rfl (Or.inl rfl) (pe_callTy (T := "str") call_str_int (by rfl) T.z_str (by decide +kernel) (pa_cons (pe_op op_add (pv 3) (pv 1)) pa_nil)))
        (pss_one (ps_expr (pe_bm PySem.F.plainAttrs_list PySem.F.slot_list_append PySem.F.type_list_append mt_append (pv 5) (pa_cons (pe_op op_add_str (pe_op op_add_str (pe_op op_add_str (pe_op op_rep_str pe_str (pe_op op_sub (pe_callB (id := "len") call_len_str (by rfl) T.z_len (by decide +kernel) (pa_cons (pv 4) pa_nil)) (pe_callB (id := "len") call_len_str (by rfl) T.z_len (by decide +kernel) (pa_cons (pv 6) pa_nil)))) (pv 6)) pe_str) (pe_ix (xK_list (K := K) rfl) (pv 2) (pv 1) (fun _ _ => rfl))) pa_nil))))))
      (pss_cons (ps_set (i := 7) sc__law_numbered_right.nd rfl (Or.inl rfl) (pe_callTy (T := "list") (cK_list (K := K) rfl) (by rfl) T.z_list (by decide +kernel) (pa_cons (pv 2) pa_nil)))
      (pss_cons (ps_set (i := 8) sc__law_numbered_right.nd rfl (Or.inl rfl) (pe_callN G_number_lines (hr.mono (by decide)) rfl T.g_number_lines T.F_number_lines.kp T.kn_number_lines pass0 (pa_cons (pv 7) pa_nil) (pk_cons (pv 3) pk_nil)))
      (pss_cons (ps_if (PW.pt (pw_and (pt_cmpR op_eq (pv 3) pe_int (nomark _)) (pw_and1 (pt_cmpR (oP_ne (K := K) rfl hr.units) (pe_call G_number_lines (hr.mono (by decide)) rfl T.g_number_lines T.F_number_lines.kp T.b_number_lines.choose_spec.2 T.b_number_lines.choose_spec.1 pass0 (pa_cons (pe_callTy (T := "tuple") (cK_tuple (K := K) rfl) (by rfl) T.z_tuple (by decide +kernel) (pa_cons (pv 2) pa_nil)) pa_nil)) (pe_callTy (T := "tuple") (cK_tuple (K := K) rfl) (by rfl) T.z_tuple (by decide +kernel) (pa_cons (pv 5) pa_nil)) (nomark _)))))
        (pss_one (ps_ret pe_bl))
        pss_nil)
      (pss_one (ps_ret (pe_and (pe_cmpR (oP_eq (K := K) rfl hr.units) (pv 7) (pv 2) (nomark _)) (pe_and (pe_callB (id := "isinstance") (cK_isi (K := K) rfl) (by rfl) T.z_isinstance (by decide +kernel) (pa_cons (pv 8) (pa_cons (pe_bltn (v := .ty "tuple") (u := .type "tuple") (by rfl) T.z_tuple (by decide +kernel) rfl) pa_nil))) (pe_one (pe_cmpR (oP_eq (K := K) rfl hr.units) (pe_callTy (T := "list") (cK_list (K := K) rfl) (by rfl) T.z_list (by decide +kernel) (pa_cons (pv 8) pa_nil)) (pv 5) (nomark _))))))))))))))), ?_⟩
    walk_at "st"
    refine ⟨_, rfl, a, 13, rfl, hs, by decide, by decide, fun r0 H0 r00 r01 k0 s0 => ⟨_, rfl, by omega, by omega, fun p hp => lc_it walk_range (fun i H' => ∃ ls : List Str, H' p = some (.lst (ls.map V.str)) ∧ ls.length = i ∧ (∀ l ∈ ls, l.length ≤ 5) ∧ Kp [a] H0 H' ∧ Src H' a)
      ⟨[], upd_same, rfl, by simp, Kp.new hp, s0.kp (Kp.new (A := []) hp) List.not_mem_nil⟩ (fun _ _ _ _ => trivial) ?_ ?_⟩⟩
    · rintro i x H1 H2 hi ⟨ls, e1, le, l5, k1, s1⟩ ⟨rfl, rfl⟩
      have pa := src_ne s0 hp
      refine gnK ⟨rfl, ?_⟩
      refine yesK ?_
      refine iteT ?_
      refine ⟨_, rfl, a, 6, rfl, s1, by decide, by decide, fun r3 H3 b0 b1 k3 s3 => ⟨_, rfl, _, rfl, by decide, ?_⟩⟩
      have e3 := k3.get e1 (.inl (by simpa using pa))
      refine ⟨_, e3, szl (by simp; omega), ls ++ [cutS "say a" none (some r3)], ?_, by simp; omega, ?_, (k1.trans k3).put hp, s3.kp (Kp.own (A := [p]) e3 rfl (by simp)) (by simpa using pa.symm)⟩
      · rw [upd_same, List.map_append]; rfl
      · intro l hl
        rcases List.mem_append.mp hl with h | h
        · exact l5 l h
        · rw [List.mem_singleton.mp h]; exact say_len b0 b1
    rintro H1 ⟨ls, e1, le, l5, k1, s1⟩
    have pa := src_ne s0 hp
    have ll : ls.length ≤ 12 := by omega
    walk_at "st"
    refine ⟨sz (by simp), fun l hl => ?_⟩
    have la := src_ne s1 hl
    have kl := fun o => Kp.new (A := []) (o := o) hl
    refine ⟨_, rfl, a, 6, rfl, s1.kp (kl _) List.not_mem_nil, by decide, by decide, fun r3 H3 b0 b1 k3 s3 => ?_⟩
    obtain ⟨m, hm, hat⟩ := at_list (xs := [V.int 1, .int 0, .int 1, .int 5, .int 93, .int 9991]) b0 b1
    obtain ⟨mi, rfl, hm0, hm1⟩ : ∃ mi : Int, m = .int mi ∧ 0 ≤ mi ∧ mi ≤ 9991 := by
      simp only [List.mem_cons, List.not_mem_nil, or_false] at hm
      rcases hm with h | h | h | h | h | h <;> exact ⟨_, h, by decide, by decide⟩
    refine ⟨l, _, _, _, rfl, rfl, SqL.of (k3.get upd_same (.inl (by simpa using la))), hat, ?_⟩
    refine ⟨_, rfl, a, 2, rfl, s3, by decide, by decide, fun r4 H4 c0 c1 k4 s4 => ?_⟩
    refine ⟨_, rfl, a, 9, rfl, s4, by decide, by decide, fun r5 H5 d0 d1 k5 s5 => ?_⟩
    refine ⟨_, _, rfl, rfl, .inl ⟨by omega, by omega⟩, _, _, rfl, rfl, ?_⟩
    have hS : 0 ≤ mi + r4 * r5 ∧ mi + r4 * r5 < 11000 := by
      have : r4 = 0 ∨ r4 = 1 := by omega
      rcases this with h | h <;> subst h <;> constructor <;> omega
    dsimp only
    generalize mi + r4 * r5 = S at hS ⊢
    obtain ⟨S0, S1⟩ := hS
    have e5 : H5 p = some (.lst (ls.map V.str)) := ((((kl _).nil.trans k3).trans k4).trans k5).get e1 (.inl (by simpa using pa))
    have k05 : Kp [a] H0 H5 := (((k1.trans (kl _).nil).trans k3).trans k4).trans k5
    walk_at "st"
    have hlog : ∀ j : Nat, j ≤ 12 → (S + (j : Int)).natAbs.log2 < 1920 ∧ (S + (j : Int) - 1).natAbs.log2 < 1920 := fun j hj => ⟨num_log (Nat.lt_of_lt_of_le (show _ < 10 ^ 6 by omega) (by decide)), num_log (Nat.lt_of_lt_of_le (show _ < 10 ^ 6 by omega) (by decide))⟩
    refine ⟨_, rfl, _, rfl, _, ls.length, rfl, .inl ⟨_, SqL.of e5, by rw [List.length_map]⟩, _, _, rfl, rfl, _, _, rfl, rfl, _, rfl, (hlog _ ll).2, ?_⟩
    walk_at "st"
    refine ⟨sz (by simp), fun e he => ?_⟩
    have ep : e ≠ p := fun z => by rw [z, e5] at he; cases he
    have ea := src_ne s5 he
    have e0 : H0 e = none := k05.none (by simpa using ea) he
    refine seq_forK ?_
    refine ⟨_, rfl, _, ls.length, rfl, .inl ⟨_, SqL.of ((upd_ne ep.symm).trans e5), by rw [List.length_map]⟩, _, rfl, by omega, by omega, for_seq walk_range (fun i σ H' => (∃ (v1 v6 : Option V), σ = [some (.ref a), v1, some (.ref p), some (.int S), some (.str (Str.ofString (toString (S + ((ls.length : Nat) : Int) - 1)))), some (.ref e), v6, none, none]) ∧
        H' e = some (.lst (((List.range i).map (lineAt (widN S ls.length) S ls)).map V.str)) ∧ H' p = some (.lst (ls.map V.str)) ∧ Kp [a] H0 H')
      ⟨⟨_, _, rfl⟩, upd_same, (upd_ne ep.symm).trans e5, k05.put e0⟩ (fun _ _ _ _ _ => trivial) ?_ ?_⟩
    · rintro i x σ H6 H7 hi ⟨⟨v1, v6, rfl⟩, e6, p6, k6⟩ ⟨rfl, rfl⟩
      have hi' : i < ls.length := by omega
      obtain ⟨z, hz⟩ : ∃ z, ls[i]? = some z := ⟨_, List.getElem?_eq_getElem hi'⟩
      have gz : ls.getD i "" = z := by rw [List.getD_eq_getElem?_getD, hz]; rfl
      have zl := l5 z (List.mem_of_getElem? hz)
      have wl := txt_len (i := S + ((ls.length : Nat) : Int) - 1) (by omega) (by omega)
      have nl := txt_len (i := S + (i : Int)) (by omega) (by omega)
      have mono := txt_mono (i := S + (i : Int)) (j := S + ((ls.length : Nat) : Int) - 1) (by omega) (by omega)
      refine gnK ?_
      walk_at "st"
      refine ⟨_, rfl, _, rfl, _, _, rfl, rfl, _, rfl, ?_, ?_⟩
      · rw [Int.zero_add]; exact (hlog i (by omega)).1
      rw [Int.zero_add]
      walk_at "st"
      refine ⟨_, rfl, .inl ⟨rfl, _, SqL.of e6⟩, ?_⟩
      refine ⟨_, rfl, _, rfl, sz (by omega), _, rfl, _, rfl, sz (by omega), _, _, rfl, rfl, _, _, rfl, rfl, by omega, by omega, by decide, fun y hy => ?_⟩
      rw [Int.toNat_sub] at hy
      have hat2 : ∀ k : Int, k = (i : Int) → atI (ls.map V.str) k = some (.str z) := fun k e => by
        rw [e]; exact atI_nat (by rw [List.getElem?_map, hz]; rfl)
      have yl : y.length ≤ 10 := by
        rw [TL.len_tl, hy]
        simp only [show TL.tl (" " : Str) = [32] by decide +kernel, List.flatten_replicate_singleton, List.length_replicate]
        omega
      refine ⟨_, rfl, _, _, rfl, rfl, sz (by omega), _, _, rfl, rfl, ?_, ?_⟩
      · rw [strLen_append, show (": " : Str).length = 2 by decide +kernel]; exact sz (by omega)
      refine ⟨_, rfl, _, rfl, p, _, _, _, rfl, rfl, SqL.of p6, hat2 _ (by omega), _, _, rfl, rfl, ?_, ?_⟩
      · rw [strLen_append, strLen_append, show (": " : Str).length = 2 by decide +kernel]; exact sz (by omega)
      refine ⟨e, _, _, rfl, rfl, e6, szl (by simp; omega), ?_⟩
      refine ⟨⟨_, _, rfl⟩, ?_, (upd_ne ep.symm).trans p6, k6.put e0⟩
      rw [upd_same, List.range_succ, List.map_append, List.map_append, ← gz, line_eq S0 hy]
      rfl
    rintro σ H6 ⟨⟨v1, v6, rfl⟩, e6, p6, k6⟩
    have e6' : H6 e = some (.lst ((numL S ls).map V.str)) := e6
    have lw : ∀ l ∈ ls, l.length ≤ 100 := fun l h => Nat.le_trans (l5 l h) (by decide)
    walk_at "st"
    refine ⟨_, rfl, p, _, rfl, .inl (SqL.of p6), fun t ht => ?_⟩
    have kt := fun o => Kp.new (A := []) (o := o) ht
    walk_at "st"
    refine ⟨_, rfl, _, rfl, rfl, rfl, t, ls, S, rfl, .inl (SqL.of upd_same), by omega, lw, S0, by omega, fun r H7 k7 h7 => ?_⟩
    have p7 := ((kt _).trans k7).get p6 (.inl List.not_mem_nil)
    have e7 := ((kt _).trans k7).get e6' (.inl List.not_mem_nil)
    have t7 := k7.get (upd_same (H := H6) (a := t) (o := .lst (ls.map V.str))) (.inl List.not_mem_nil)
    have k07 : Kp [a] H H7 := k0.trans (k6.trans ((kt _).trans k7).nil)
    have fin : ∀ H8, Kp [] H7 H8 → tRet
        (tAndV (tOp (rEqP K) (tVar 7) (tVar 2))
          (tAndV (tCB (rIsi K) (tCons (tVar 8) (tCons (tC (V.ty "tuple")) tNil)))
            (tOp (rEqP K) (tCB (rListOf K) (tCons (tVar 8) tNil)) (tVar 5))))
        { nx := fun x H' => Q V.non H', rt := Q } [some (.ref a), v1, some (.ref p), some (.int S), some (.str (Str.ofString (toString (S + ((ls.length : Nat) : Int) - 1)))), some (.ref e), v6, some (.ref t), some (.ref r)] H8 := fun H8 k8 => by
      have p8 := k8.get p7 (.inl List.not_mem_nil)
      have t8 := k8.get t7 (.inl List.not_mem_nil)
      have e8 := k8.get e7 (.inl List.not_mem_nil)
      refine ⟨_, rfl, _, rfl, _, _, .lst (.inl (.inl t8)) (dv_strs (A := []) ls).dp, .lst (.inl (.inl p8)) (dv_strs (A := []) ls).dp, (strs_pln ls).2, (strs_pln ls).2, _, rfl, ?_⟩
      rw [SeqAt.eqv_refl_plain _ (strs_pln ls).2.1]
      refine iteT ?_
      refine ⟨_, rfl, _, _, _, _, true, rfl, .ty "tuple", tyx_tup (k8.sqT h7), kit_ty (by decide +kernel), true, rfl, ?_⟩
      refine iteT ?_
      refine ⟨_, rfl, r, _, rfl, .inr (k8.sqT h7), fun m hm => ?_⟩
      have e9 := (Kp.new (A := []) (o := .lst ((numL S ls).map V.str)) hm).get e8 (.inl List.not_mem_nil)
      refine ⟨_, rfl, _, _, .lst (.inl (.inl upd_same)) (dv_strs (A := []) (numL S ls)).dp, .lst (.inl (.inl e9)) (dv_strs (A := []) (numL S ls)).dp, (strs_pln _).2, (strs_pln _).2, ?_⟩
      exact asB (q _ (k07.trans (k8.trans (Kp.new hm)).nil)) (SeqAt.eqv_refl_plain _ (strs_pln _).2.1).symm
    refine seq_ifK0 ?_
    refine ⟨_, rfl, rfl, _, rfl, ?_⟩
    refine ite2 (fun c => ?_) (fun c => ?_)
    · have c1 : S = 1 := by simpa using c
      subst c1
      refine ⟨_, rfl, p, _, rfl, .inl ⟨SqL.of p7, fun z hz => ?_⟩⟩
      have kz := fun o => Kp.new (A := []) (o := o) hz
      refine ⟨z, ls, 1, rfl, .inr (SqT.of upd_same), by omega, lw, by decide, by decide, fun r8 H8 k8 h8 => ?_⟩
      have e8 := ((kz _).trans k8).get e7 (.inl List.not_mem_nil)
      refine ⟨_, rfl, e, _, rfl, .inl ⟨SqL.of e8, fun y hy => ?_⟩⟩
      have ky := fun o => Kp.new (A := []) (o := o) hy
      refine ⟨_, _, .tup ((ky _).sqT h8) (dv_strs (A := []) (numL 1 ls)).dp, .tup (SqT.of upd_same) (dv_strs (A := []) (numL 1 ls)).dp, (strs_pln _).1, (strs_pln _).1, _, rfl, ?_⟩
      refine ite2 (fun h => absurd h (by rw [SeqAt.eqv_refl_plain _ (strs_pln _).1.1]; simp)) (fun _ => ?_)
      exact fin _ (((kz _).trans k8).trans (ky _))
    · refine iteF ?_
      exact fin _ Kp.refl
def sp_law (K : PySem.W.Frag) : Sp := fun vs H Q _ => ∃ (a : Addr) (ns : List Int), vs = [.ref a] ∧ SqL K H a (ns.map V.int) ∧ ns.length ≤ 63 ∧ ∀ H', Q (.bl true) H'
theorem ok_law (T : Txt K mg A D) : FnOk P w K mg base CX0 6 (A 27) (D 27) ["_law_script"] (sp_law K) := by
  refine T.F_law.ok sc_law (fun vs H Q E h => ?_) (fun cdv A' outer s H vs Q E hr h => ?_)
  · obtain ⟨a, ns, rfl, hS, hl, q⟩ := h
    rfl
  · obtain ⟨a, ns, rfl, hS, hl, q⟩ := h
    have hu := hu_of hr
    have G__law_numbered_right : FnOk P w K mg base CX0 2 (A 26) (D 26) ["_law_source_here"] (sp__law_numbered_right K) := ok__law_numbered_right T
    have G__law_source : FnOk P w K mg base CX0 1 (A 16) (D 16) ["_law_script", "_law_k"] (sp__law_source K) := ok__law_source T
    have G__law_number_right : FnOk P w K mg base CX0 5 (A 21) (D 21) ["_law_source_here"] (sp__law_number_right K) := ok__law_number_right T
    have G__law_names_right : FnOk P w K mg base CX0 5 (A 25) (D 25) ["_law_source_here"] (sp__law_names_right K) := ok__law_names_right T
    refine ⟨_, (pss_cons (ps_for PassesOwn.never rfl (pi_range1 rfl T.z_range (pa_cons pe_int pa_nil)) (pg_name (i := 1) sc_law.nd rfl (Or.inl rfl))
        (pss_one (ps_if (pt_not (pt_val (pe_call G__law_number_right (hr.mono (by decide)) rfl T.g__law_number_right T.F__law_number_right.kp T.b__law_number_right .nil pass0 (pa_cons (pe_call G__law_source (hr.mono (by decide)) rfl T.g__law_source T.F__law_source.kp T.b__law_source .nil pass0 (pa_cons (pv 0) (pa_cons (pv 1) pa_nil))) pa_nil))))
          (pss_one (ps_ret pe_bl))
          pss_nil)))
      (pss_cons (ps_for PassesOwn.never rfl (pi_range2 rfl T.z_range (pa_cons pe_int (pa_cons pe_int pa_nil))) (pg_name (i := 1) sc_law.nd rfl (Or.inl rfl))
        (pss_one (ps_if (pt_not (pt_val (pe_call G__law_names_right (hr.mono (by decide)) rfl T.g__law_names_right T.F__law_names_right.kp T.b__law_names_right .nil pass0 (pa_cons (pe_call G__law_source (hr.mono (by decide)) rfl T.g__law_source T.F__law_source.kp T.b__law_source .nil pass0 (pa_cons (pv 0) (pa_cons (pv 1) pa_nil))) pa_nil))))
          (pss_one (ps_ret pe_bl))
          pss_nil)))
      (pss_one (ps_ret (pe_call G__law_numbered_right (hr.mono (by decide)) rfl T.g__law_numbered_right T.F__law_numbered_right.kp T.b__law_numbered_right .nil pass0 (pa_cons (pe_call G__law_source (hr.mono (by decide)) rfl T.g__law_source T.F__law_source.kp T.b__law_source .nil pass0 (pa_cons (pv 0) (pa_cons pe_int pa_nil))) pa_nil)))))), ?_⟩
    have src : ∀ (H' : Hp), Kp [] H H' → SqL K H' a (ns.map V.int) := fun H' k => k.sqL List.not_mem_nil hS
    refine seq_forK ?_
    refine ⟨_, rfl, by decide, by decide, for_seq walk_range (fun i σ H' => (∃ v : Option V, σ = [some (.ref a), v]) ∧ Kp [] H H') ⟨⟨_, rfl⟩, Kp.refl⟩ (fun _ _ _ _ _ => trivial) ?_ ?_⟩
    · rintro i x σ H1 H2 hi ⟨⟨v, rfl⟩, k1⟩ ⟨rfl, rfl⟩
      refine gnK ?_
      refine if_anK ?_
      refine ⟨_, rfl, _, rfl, a, ns, i, ?_, src _ k1, hl, fun p H3 hp k3 s3 => ?_⟩
      · simp
      refine ⟨p, rfl, s3, fun H4 k4 => ⟨_, rfl, ?_⟩⟩
      refine iteF ?_
      refine nextK ?_
      exact ⟨⟨_, rfl⟩, k1.trans (Kp.back hp (k3.nil.trans k4))⟩
    rintro σ H1 ⟨⟨v, rfl⟩, k1⟩
    refine seq_forK ?_
    refine ⟨_, _, rfl, by decide, for_seq walk_range (fun i σ H' => (∃ v : Option V, σ = [some (.ref a), v]) ∧ Kp [] H H') ⟨⟨_, rfl⟩, k1⟩ (fun _ _ _ _ _ => trivial) ?_ ?_⟩
    · rintro i x σ H1 H2 hi ⟨⟨v, rfl⟩, k1⟩ ⟨rfl, rfl⟩
      refine gnK ?_
      refine if_anK ?_
      refine ⟨_, rfl, _, rfl, a, ns, 4 + i, ?_, src _ k1, hl, fun p H3 hp k3 s3 => ?_⟩
      · simp
      refine ⟨p, rfl, s3, fun H4 k4 => ⟨_, rfl, ?_⟩⟩
      refine iteF ?_
      refine nextK ?_
      exact ⟨⟨_, rfl⟩, k1.trans (Kp.back hp (k3.nil.trans k4))⟩
    rintro σ H2 ⟨⟨v2, rfl⟩, k2⟩
    walk_at "st"
    refine ⟨_, rfl, a, ns, 7, rfl, src _ k2, hl, fun p5 H5 hp5 k5 s5 => ?_⟩
    exact ⟨p5, rfl, s5, fun H6 _ => q H6⟩
end
theorem all_mk {l : PySem.W.OpenLaw} {w : World} {K : PySem.W.Frag} {h : Heap} {mg : Str → Option Value} {fa : Addr} (X : K.In h) (G : h.Ns mainGlobals mg) (hfa : mg "law" = some (.ref fa))
    {f1 : Addr} (a1 : PySem.W.nsIn K mainGlobals "ShadowError" = some (some (.ref f1)))
    {f2 : Addr} (a2 : PySem.W.nsIn K mainGlobals "InvalidName" = some (some (.ref f2)))
    {f3 : Addr} (a3 : PySem.W.nsIn K mainGlobals "InvalidText" = some (some (.ref f3)))
    {nm2 qn2 : Str} {N2 : Addr} {bs2 bm2 : List Value} {sn2 : List Str} {sub2 : List Value} {ab2 : Bool} {col2 : Option Bool} {dd2 : Option Addr} {u0_2 u1_2 u2_2 u3_2 u5_2 : Option Value}
    {f1040 : Addr} {oc1040 kV1040 dc1040 pm1040 cd1040 ct1040 : Value} {od1040 an1040 : Option Addr} {sl1040 : Array (Option Value)}
    (xL_2 : K.lookup f2 = some (excClassObj nm2 qn2 f2 N2 bs2 bm2 true sn2 sub2 ab2 col2 dd2 u0_2 u1_2 u2_2 u3_2 u5_2 "ValueError.__new__"))
    (rv_2 : PySem.HandSPX.refsVE bm2 = true)
    (sa_2 : PySem.W.findIn K (.ref f2) "__setattr__" = some (some (.builtin "object.__setattr__")))
    (ga_2 : PySem.W.findIn K (.ref f2) "__getattribute__" = some (some (.builtin "BaseException.__getattribute__")))
    (gg_2 : PySem.W.findIn K (.ref f2) "__getattr__" = some none)
    (no_2 : PySem.W.findIn K (.ref f2) "name" = some none)
    (iC_2 : PySem.W.findIn K (.ref f2) "__init__" = some (some (.ref f1040)))
    (tI_2 : PySem.W.typeIn K (.ref f1040) = some (.type "function"))
    (kC_2 : PySem.W.keepIn K (.ref f2) = true)
    (eC_2 : PySem.W.subIn K (.ref f2) (.type "BaseException") = some true)
    (tC_2 : PySem.W.typeIn K (.ref f2) = some (.type "type"))
    (hC_2 : PySem.W.hasDictIn K f2 = true)
    (isC_2 : PySem.W.isClsIn K f2 = true)
    (isa_2 : PySem.W.findIn K (.ref f2) "__class__" = some (some (.builtin "object.__class__")))
    (isn_2 : PySem.W.specialIn K (.builtin "object.__class__") "__get__" = some (some (.builtin "getset_descriptor.__get__")))
    (ist_2 : PySem.W.takesIn K (.builtin "object.__class__") = some true)
    (ism_2 : PySem.W.mroIn K f2 (.type "object") = some true)
    (l1040 : K.lookup f1040 = some ⟨oc1040, od1040, .func (PySem.W.fnOf "__init__" "InvalidName.__init__" (defArgs (topM 2 0)) (defBody (topM 2 0)) (defScope (topM 2 0)) .none kV1040 dc1040 pm1040 an1040 cd1040 ct1040), sl1040⟩)
    (c1040 : PySem.W.codeIn K cd1040 "InvalidName.__init__" = true)
    (k1040 : PySem.W.keepIn K (.ref f1040) = true)
    {nm3 qn3 : Str} {N3 : Addr} {bs3 bm3 : List Value} {sn3 : List Str} {sub3 : List Value} {ab3 : Bool} {col3 : Option Bool} {dd3 : Option Addr} {u0_3 u1_3 u2_3 u3_3 u5_3 : Option Value}
    {f1060 : Addr} {oc1060 kV1060 dc1060 pm1060 cd1060 ct1060 : Value} {od1060 an1060 : Option Addr} {sl1060 : Array (Option Value)}
    (xL_3 : K.lookup f3 = some (excClassObj nm3 qn3 f3 N3 bs3 bm3 true sn3 sub3 ab3 col3 dd3 u0_3 u1_3 u2_3 u3_3 u5_3 "ValueError.__new__"))
    (rv_3 : PySem.HandSPX.refsVE bm3 = true)
    (sa_3 : PySem.W.findIn K (.ref f3) "__setattr__" = some (some (.builtin "object.__setattr__")))
    (ga_3 : PySem.W.findIn K (.ref f3) "__getattribute__" = some (some (.builtin "BaseException.__getattribute__")))
    (gg_3 : PySem.W.findIn K (.ref f3) "__getattr__" = some none)
    (no_3 : PySem.W.findIn K (.ref f3) "line" = some none)
    (iC_3 : PySem.W.findIn K (.ref f3) "__init__" = some (some (.ref f1060)))
    (tI_3 : PySem.W.typeIn K (.ref f1060) = some (.type "function"))
    (kC_3 : PySem.W.keepIn K (.ref f3) = true)
    (eC_3 : PySem.W.subIn K (.ref f3) (.type "BaseException") = some true)
    (tC_3 : PySem.W.typeIn K (.ref f3) = some (.type "type"))
    (hC_3 : PySem.W.hasDictIn K f3 = true)
    (isC_3 : PySem.W.isClsIn K f3 = true)
    (isa_3 : PySem.W.findIn K (.ref f3) "__class__" = some (some (.builtin "object.__class__")))
    (isn_3 : PySem.W.specialIn K (.builtin "object.__class__") "__get__" = some (some (.builtin "getset_descriptor.__get__")))
    (ist_3 : PySem.W.takesIn K (.builtin "object.__class__") = some true)
    (ism_3 : PySem.W.mroIn K f3 (.type "object") = some true)
    (l1060 : K.lookup f1060 = some ⟨oc1060, od1060, .func (PySem.W.fnOf "__init__" "InvalidText.__init__" (defArgs (topM 3 0)) (defBody (topM 3 0)) (defScope (topM 3 0)) .none kV1060 dc1060 pm1060 an1060 cd1060 ct1060), sl1060⟩)
    (c1060 : PySem.W.codeIn K cd1060 "InvalidText.__init__" = true)
    (k1060 : PySem.W.keepIn K (.ref f1060) = true)
    (sb_2_1 : PySem.W.subIn K (.ref f2) (.ref f1) = some true) (ki_2_1 : PySem.W.kitOne K (.ref f2) (.ref f1) = some true)
    (eC_1 : PySem.W.subIn K (.ref f1) (.type "BaseException") = some true)
    (tC_1 : PySem.W.typeIn K (.ref f1) = some (.type "type"))
    (hC_1 : PySem.W.hasDictIn K f1 = true)
    (sb_2_2 : PySem.W.subIn K (.ref f2) (.ref f2) = some true) (ki_2_2 : PySem.W.kitOne K (.ref f2) (.ref f2) = some true)
    (sb_2_3 : PySem.W.subIn K (.ref f2) (.ref f3) = some false) (ki_2_3 : PySem.W.kitOne K (.ref f2) (.ref f3) = some false)
    (rd_1 : PySem.W.readsIn K f1 (.type "type") = true)
    (sg_1 : PySem.W.specialIn K (.ref f1) "__getattribute__" = some (some (.builtin "type.__getattribute__")))
    (it_1 : PySem.W.findCls K (.ref f1) (.type "type") "__init__" = some (.val (.builtin "ValueError.__init__")))
    (sb_3_1 : PySem.W.subIn K (.ref f3) (.ref f1) = some true) (ki_3_1 : PySem.W.kitOne K (.ref f3) (.ref f1) = some true)
    (sb_3_2 : PySem.W.subIn K (.ref f3) (.ref f2) = some false) (ki_3_2 : PySem.W.kitOne K (.ref f3) (.ref f2) = some false)
    (sb_3_3 : PySem.W.subIn K (.ref f3) (.ref f3) = some true) (ki_3_3 : PySem.W.kitOne K (.ref f3) (.ref f3) = some true)
    {oc7 kV7 dc7 pm7 cd7 ct7 : Value} {od7 an7 : Option Addr} {sl7 : Array (Option Value)} {f7 : Addr}
    (a7 : PySem.W.nsIn K mainGlobals "is_name" = some (some (.ref f7))) (l7 : K.lookup f7 = some ⟨oc7, od7, .func (PySem.W.fnOf "is_name" "is_name" (defArgs (topS 7)) (defBody (topS 7)) (defScope (topS 7)) .none kV7 dc7 pm7 an7 cd7 ct7), sl7⟩) (c7 : PySem.W.codeIn K cd7 "is_name" = true) (k7 : PySem.W.keepIn K (.ref f7) = true)
    {oc8 kV8 dc8 pm8 cd8 ct8 : Value} {od8 an8 : Option Addr} {sl8 : Array (Option Value)} {f8 : Addr}
    (a8 : PySem.W.nsIn K mainGlobals "is_full_name" = some (some (.ref f8))) (l8 : K.lookup f8 = some ⟨oc8, od8, .func (PySem.W.fnOf "is_full_name" "is_full_name" (defArgs (topS 8)) (defBody (topS 8)) (defScope (topS 8)) .none kV8 dc8 pm8 an8 cd8 ct8), sl8⟩) (c8 : PySem.W.codeIn K cd8 "is_full_name" = true) (k8 : PySem.W.keepIn K (.ref f8) = true)
    {oc10 kV10 dc10 pm10 cd10 ct10 : Value} {od10 an10 : Option Addr} {sl10 : Array (Option Value)} {f10 : Addr}
    (a10 : PySem.W.nsIn K mainGlobals "is_number" = some (some (.ref f10))) (l10 : K.lookup f10 = some ⟨oc10, od10, .func (PySem.W.fnOf "is_number" "is_number" (defArgs (topS 10)) (defBody (topS 10)) (defScope (topS 10)) .none kV10 dc10 pm10 an10 cd10 ct10), sl10⟩) (c10 : PySem.W.codeIn K cd10 "is_number" = true) (k10 : PySem.W.keepIn K (.ref f10) = true)
    {oc11 dc11 pm11 cd11 ct11 : Value} {od11 an11 : Option Addr} {sl11 : Array (Option Value)} {f11 kd11 : Addr}
    (a11 : PySem.W.nsIn K mainGlobals "parse_number" = some (some (.ref f11))) (l11 : K.lookup f11 = some ⟨oc11, od11, .func (PySem.W.fnOf "parse_number" "parse_number" (defArgs (topS 11)) (defBody (topS 11)) (defScope (topS 11)) .none (.ref kd11) dc11 pm11 an11 cd11 ct11), sl11⟩) (c11 : PySem.W.codeIn K cd11 "parse_number" = true) (k11 : PySem.W.keepIn K (.ref f11) = true)
    {tq11_0 : Tok} (q11_0 : PySem.W.nsIn K kd11 "line" = some (some (.int 1 tq11_0)))
    {oc12 dc12 pm12 cd12 ct12 : Value} {od12 an12 : Option Addr} {sl12 : Array (Option Value)} {f12 kd12 : Addr}
    (a12 : PySem.W.nsIn K mainGlobals "number_lines" = some (some (.ref f12))) (l12 : K.lookup f12 = some ⟨oc12, od12, .func (PySem.W.fnOf "number_lines" "number_lines" (defArgs (topS 12)) (defBody (topS 12)) (defScope (topS 12)) .none (.ref kd12) dc12 pm12 an12 cd12 ct12), sl12⟩) (c12 : PySem.W.codeIn K cd12 "number_lines" = true) (k12 : PySem.W.keepIn K (.ref f12) = true)
    {tq12_0 : Tok} (q12_0 : PySem.W.nsIn K kd12 "first" = some (some (.int 1 tq12_0)))
    {oc14 dc14 pm14 cd14 ct14 : Value} {od14 an14 : Option Addr} {sl14 : Array (Option Value)} {f14 kd14 : Addr}
    (a14 : PySem.W.nsIn K mainGlobals "parse_names" = some (some (.ref f14))) (l14 : K.lookup f14 = some ⟨oc14, od14, .func (PySem.W.fnOf "parse_names" "parse_names" (defArgs (topS 14)) (defBody (topS 14)) (defScope (topS 14)) .none (.ref kd14) dc14 pm14 an14 cd14 ct14), sl14⟩) (c14 : PySem.W.codeIn K cd14 "parse_names" = true) (k14 : PySem.W.keepIn K (.ref f14) = true)
    {tq14_0 : Tok} (q14_0 : PySem.W.nsIn K kd14 "line" = some (some (.int 1 tq14_0)))
    {oc16 kV16 dc16 pm16 cd16 ct16 : Value} {od16 an16 : Option Addr} {sl16 : Array (Option Value)} {f16 : Addr}
    (a16 : PySem.W.nsIn K mainGlobals "_law_source" = some (some (.ref f16))) (l16 : K.lookup f16 = some ⟨oc16, od16, .func (PySem.W.fnOf "_law_source" "_law_source" (defArgs (topS 16)) (defBody (topS 16)) (defScope (topS 16)) .none kV16 dc16 pm16 an16 cd16 ct16), sl16⟩) (c16 : PySem.W.codeIn K cd16 "_law_source" = true) (k16 : PySem.W.keepIn K (.ref f16) = true)
    {oc17 kV17 dc17 pm17 cd17 ct17 : Value} {od17 an17 : Option Addr} {sl17 : Array (Option Value)} {f17 : Addr}
    (a17 : PySem.W.nsIn K mainGlobals "_law_draw" = some (some (.ref f17))) (l17 : K.lookup f17 = some ⟨oc17, od17, .func (PySem.W.fnOf "_law_draw" "_law_draw" (defArgs (topS 17)) (defBody (topS 17)) (defScope (topS 17)) .none kV17 dc17 pm17 an17 cd17 ct17), sl17⟩) (c17 : PySem.W.codeIn K cd17 "_law_draw" = true) (k17 : PySem.W.keepIn K (.ref f17) = true)
    {oc18 kV18 dc18 pm18 cd18 ct18 : Value} {od18 an18 : Option Addr} {sl18 : Array (Option Value)} {f18 : Addr}
    (a18 : PySem.W.nsIn K mainGlobals "_law_string" = some (some (.ref f18))) (l18 : K.lookup f18 = some ⟨oc18, od18, .func (PySem.W.fnOf "_law_string" "_law_string" (defArgs (topS 18)) (defBody (topS 18)) (defScope (topS 18)) .none kV18 dc18 pm18 an18 cd18 ct18), sl18⟩) (c18 : PySem.W.codeIn K cd18 "_law_string" = true) (k18 : PySem.W.keepIn K (.ref f18) = true)
    {oc19 kV19 dc19 pm19 cd19 ct19 : Value} {od19 an19 : Option Addr} {sl19 : Array (Option Value)} {f19 : Addr}
    (a19 : PySem.W.nsIn K mainGlobals "_law_integer" = some (some (.ref f19))) (l19 : K.lookup f19 = some ⟨oc19, od19, .func (PySem.W.fnOf "_law_integer" "_law_integer" (defArgs (topS 19)) (defBody (topS 19)) (defScope (topS 19)) .none kV19 dc19 pm19 an19 cd19 ct19), sl19⟩) (c19 : PySem.W.codeIn K cd19 "_law_integer" = true) (k19 : PySem.W.keepIn K (.ref f19) = true)
    {oc20 kV20 dc20 pm20 cd20 ct20 : Value} {od20 an20 : Option Addr} {sl20 : Array (Option Value)} {f20 : Addr}
    (a20 : PySem.W.nsIn K mainGlobals "_law_number" = some (some (.ref f20))) (l20 : K.lookup f20 = some ⟨oc20, od20, .func (PySem.W.fnOf "_law_number" "_law_number" (defArgs (topS 20)) (defBody (topS 20)) (defScope (topS 20)) .none kV20 dc20 pm20 an20 cd20 ct20), sl20⟩) (c20 : PySem.W.codeIn K cd20 "_law_number" = true) (k20 : PySem.W.keepIn K (.ref f20) = true)
    {oc21 kV21 dc21 pm21 cd21 ct21 : Value} {od21 an21 : Option Addr} {sl21 : Array (Option Value)} {f21 : Addr}
    (a21 : PySem.W.nsIn K mainGlobals "_law_number_right" = some (some (.ref f21))) (l21 : K.lookup f21 = some ⟨oc21, od21, .func (PySem.W.fnOf "_law_number_right" "_law_number_right" (defArgs (topS 21)) (defBody (topS 21)) (defScope (topS 21)) .none kV21 dc21 pm21 an21 cd21 ct21), sl21⟩) (c21 : PySem.W.codeIn K cd21 "_law_number_right" = true) (k21 : PySem.W.keepIn K (.ref f21) = true)
    {oc22 kV22 dc22 pm22 cd22 ct22 : Value} {od22 an22 : Option Addr} {sl22 : Array (Option Value)} {f22 : Addr}
    (a22 : PySem.W.nsIn K mainGlobals "_law_words" = some (some (.ref f22))) (l22 : K.lookup f22 = some ⟨oc22, od22, .func (PySem.W.fnOf "_law_words" "_law_words" (defArgs (topS 22)) (defBody (topS 22)) (defScope (topS 22)) .none kV22 dc22 pm22 an22 cd22 ct22), sl22⟩) (c22 : PySem.W.codeIn K cd22 "_law_words" = true) (k22 : PySem.W.keepIn K (.ref f22) = true)
    {oc23 kV23 dc23 pm23 cd23 ct23 : Value} {od23 an23 : Option Addr} {sl23 : Array (Option Value)} {f23 : Addr}
    (a23 : PySem.W.nsIn K mainGlobals "_law_is_name" = some (some (.ref f23))) (l23 : K.lookup f23 = some ⟨oc23, od23, .func (PySem.W.fnOf "_law_is_name" "_law_is_name" (defArgs (topS 23)) (defBody (topS 23)) (defScope (topS 23)) .none kV23 dc23 pm23 an23 cd23 ct23), sl23⟩) (c23 : PySem.W.codeIn K cd23 "_law_is_name" = true) (k23 : PySem.W.keepIn K (.ref f23) = true)
    {oc24 kV24 dc24 pm24 cd24 ct24 : Value} {od24 an24 : Option Addr} {sl24 : Array (Option Value)} {f24 : Addr}
    (a24 : PySem.W.nsIn K mainGlobals "_law_names" = some (some (.ref f24))) (l24 : K.lookup f24 = some ⟨oc24, od24, .func (PySem.W.fnOf "_law_names" "_law_names" (defArgs (topS 24)) (defBody (topS 24)) (defScope (topS 24)) .none kV24 dc24 pm24 an24 cd24 ct24), sl24⟩) (c24 : PySem.W.codeIn K cd24 "_law_names" = true) (k24 : PySem.W.keepIn K (.ref f24) = true)
    {oc25 kV25 dc25 pm25 cd25 ct25 : Value} {od25 an25 : Option Addr} {sl25 : Array (Option Value)} {f25 : Addr}
    (a25 : PySem.W.nsIn K mainGlobals "_law_names_right" = some (some (.ref f25))) (l25 : K.lookup f25 = some ⟨oc25, od25, .func (PySem.W.fnOf "_law_names_right" "_law_names_right" (defArgs (topS 25)) (defBody (topS 25)) (defScope (topS 25)) .none kV25 dc25 pm25 an25 cd25 ct25), sl25⟩) (c25 : PySem.W.codeIn K cd25 "_law_names_right" = true) (k25 : PySem.W.keepIn K (.ref f25) = true)
    {oc26 kV26 dc26 pm26 cd26 ct26 : Value} {od26 an26 : Option Addr} {sl26 : Array (Option Value)} {f26 : Addr}
    (a26 : PySem.W.nsIn K mainGlobals "_law_numbered_right" = some (some (.ref f26))) (l26 : K.lookup f26 = some ⟨oc26, od26, .func (PySem.W.fnOf "_law_numbered_right" "_law_numbered_right" (defArgs (topS 26)) (defBody (topS 26)) (defScope (topS 26)) .none kV26 dc26 pm26 an26 cd26 ct26), sl26⟩) (c26 : PySem.W.codeIn K cd26 "_law_numbered_right" = true) (k26 : PySem.W.keepIn K (.ref f26) = true)
    {oc27 kV27 dc27 pm27 cd27 ct27 : Value} {od27 an27 : Option Addr} {sl27 : Array (Option Value)} {f27 : Addr}
    (a27 : PySem.W.nsIn K mainGlobals "law" = some (some (.ref f27))) (l27 : K.lookup f27 = some ⟨oc27, od27, .func (PySem.W.fnOf "law" "law" (defArgs (topS 27)) (defBody (topS 27)) (defScope (topS 27)) .none kV27 dc27 pm27 an27 cd27 ct27), sl27⟩) (c27 : PySem.W.codeIn K cd27 "law" = true) (k27 : PySem.W.keepIn K (.ref f27) = true)
    (z_len : PySem.W.nsIn K mainGlobals "len" = some none)
    (z_int : PySem.W.nsIn K mainGlobals "int" = some none)
    (z_str : PySem.W.nsIn K mainGlobals "str" = some none)
    (z_bool : PySem.W.nsIn K mainGlobals "bool" = some none)
    (z_list : PySem.W.nsIn K mainGlobals "list" = some none)
    (z_tuple : PySem.W.nsIn K mainGlobals "tuple" = some none)
    (z_range : PySem.W.nsIn K mainGlobals "range" = some none)
    (z_enumerate : PySem.W.nsIn K mainGlobals "enumerate" = some none)
    (z_sorted : PySem.W.nsIn K mainGlobals "sorted" = some none)
    (z_isinstance : PySem.W.nsIn K mainGlobals "isinstance" = some none)
    {t_LETTERS : Tok} (x_LETTERS : PySem.W.nsIn K mainGlobals "LETTERS" = some (some (.str "abcdefghijklmnopqrstuvwxyz" t_LETTERS)))
    {t_DIGITS : Tok} (x_DIGITS : PySem.W.nsIn K mainGlobals "DIGITS" = some (some (.str "0123456789" t_DIGITS)))
    : ∃ fd : FuncData, (∀ (s : Shared) (v : Value), BindsTo s fd ⟨[v], []⟩ [("_law_script", v)]) ∧ ∀ base : Heap, K.In base → base.Ns mainGlobals mg → FnOk l.prog w K mg base CX0 6 fa fd ["_law_script"] (sp_law K) := by
  have e := hfa.symm.trans (PySem.W.mg_of X G a27)
  cases e
  let A : Nat → Addr := fun i => match i with
    | 7 => f7
    | 8 => f8
    | 10 => f10
    | 11 => f11
    | 12 => f12
    | 14 => f14
    | 16 => f16
    | 17 => f17
    | 18 => f18
    | 19 => f19
    | 20 => f20
    | 21 => f21
    | 22 => f22
    | 23 => f23
    | 24 => f24
    | 25 => f25
    | 26 => f26
    | 27 => fa
    | 1 => f1
    | 2 => f2
    | 1040 => f1040
    | 3 => f3
    | 1060 => f1060
    | _ => 0
  let D : Nat → FuncData := fun i => match i with
    | 1040 => PySem.W.fnOf "__init__" "InvalidName.__init__" (defArgs (topM 2 0)) (defBody (topM 2 0)) (defScope (topM 2 0)) .none kV1040 dc1040 pm1040 an1040 cd1040 ct1040
    | 1060 => PySem.W.fnOf "__init__" "InvalidText.__init__" (defArgs (topM 3 0)) (defBody (topM 3 0)) (defScope (topM 3 0)) .none kV1060 dc1060 pm1060 an1060 cd1060 ct1060
    | 7 => PySem.W.fnOf "is_name" "is_name" (defArgs (topS 7)) (defBody (topS 7)) (defScope (topS 7)) .none kV7 dc7 pm7 an7 cd7 ct7
    | 8 => PySem.W.fnOf "is_full_name" "is_full_name" (defArgs (topS 8)) (defBody (topS 8)) (defScope (topS 8)) .none kV8 dc8 pm8 an8 cd8 ct8
    | 10 => PySem.W.fnOf "is_number" "is_number" (defArgs (topS 10)) (defBody (topS 10)) (defScope (topS 10)) .none kV10 dc10 pm10 an10 cd10 ct10
    | 11 => PySem.W.fnOf "parse_number" "parse_number" (defArgs (topS 11)) (defBody (topS 11)) (defScope (topS 11)) .none (.ref kd11) dc11 pm11 an11 cd11 ct11
    | 12 => PySem.W.fnOf "number_lines" "number_lines" (defArgs (topS 12)) (defBody (topS 12)) (defScope (topS 12)) .none (.ref kd12) dc12 pm12 an12 cd12 ct12
    | 14 => PySem.W.fnOf "parse_names" "parse_names" (defArgs (topS 14)) (defBody (topS 14)) (defScope (topS 14)) .none (.ref kd14) dc14 pm14 an14 cd14 ct14
    | 16 => PySem.W.fnOf "_law_source" "_law_source" (defArgs (topS 16)) (defBody (topS 16)) (defScope (topS 16)) .none kV16 dc16 pm16 an16 cd16 ct16
    | 17 => PySem.W.fnOf "_law_draw" "_law_draw" (defArgs (topS 17)) (defBody (topS 17)) (defScope (topS 17)) .none kV17 dc17 pm17 an17 cd17 ct17
    | 18 => PySem.W.fnOf "_law_string" "_law_string" (defArgs (topS 18)) (defBody (topS 18)) (defScope (topS 18)) .none kV18 dc18 pm18 an18 cd18 ct18
    | 19 => PySem.W.fnOf "_law_integer" "_law_integer" (defArgs (topS 19)) (defBody (topS 19)) (defScope (topS 19)) .none kV19 dc19 pm19 an19 cd19 ct19
    | 20 => PySem.W.fnOf "_law_number" "_law_number" (defArgs (topS 20)) (defBody (topS 20)) (defScope (topS 20)) .none kV20 dc20 pm20 an20 cd20 ct20
    | 21 => PySem.W.fnOf "_law_number_right" "_law_number_right" (defArgs (topS 21)) (defBody (topS 21)) (defScope (topS 21)) .none kV21 dc21 pm21 an21 cd21 ct21
    | 22 => PySem.W.fnOf "_law_words" "_law_words" (defArgs (topS 22)) (defBody (topS 22)) (defScope (topS 22)) .none kV22 dc22 pm22 an22 cd22 ct22
    | 23 => PySem.W.fnOf "_law_is_name" "_law_is_name" (defArgs (topS 23)) (defBody (topS 23)) (defScope (topS 23)) .none kV23 dc23 pm23 an23 cd23 ct23
    | 24 => PySem.W.fnOf "_law_names" "_law_names" (defArgs (topS 24)) (defBody (topS 24)) (defScope (topS 24)) .none kV24 dc24 pm24 an24 cd24 ct24
    | 25 => PySem.W.fnOf "_law_names_right" "_law_names_right" (defArgs (topS 25)) (defBody (topS 25)) (defScope (topS 25)) .none kV25 dc25 pm25 an25 cd25 ct25
    | 26 => PySem.W.fnOf "_law_numbered_right" "_law_numbered_right" (defArgs (topS 26)) (defBody (topS 26)) (defScope (topS 26)) .none kV26 dc26 pm26 an26 cd26 ct26
    | 27 => PySem.W.fnOf "law" "law" (defArgs (topS 27)) (defBody (topS 27)) (defScope (topS 27)) .none kV27 dc27 pm27 an27 cd27 ct27
    | _ => PySem.W.fnOf "law" "law" (defArgs (topS 27)) (defBody (topS 27)) (defScope (topS 27)) .none kV27 dc27 pm27 an27 cd27 ct27
  have T : Txt K mg A D := {
    g_ShadowError := PySem.W.mg_of X G a1
    g_InvalidName := PySem.W.mg_of X G a2
    E_InvalidName := { gC := PySem.W.mg_of X G a2, oex := ⟨⟨_, _, _, _, _, _, _, _, _, _, _, _, _, _, _, xL_2, rv_2⟩, sa_2, eC_2, tC_2, kC_2⟩, no := no_2, iC := iC_2, tI := tI_2, xf := ⟨ga_2, gg_2, eC_2, hC_2⟩, isa := isa_2, isn := isn_2, ist := ist_2, ism := ism_2, isc := isC_2, F := fun_mk (st := (topM 2 0)) l1040 c1040 k1040, b := (fun_mk (st := (topM 2 0)) l1040 c1040 k1040).binds (ps := ["self", "name"]) fun _ _ _ _ _ _ us hl => match us, hl with | [_, _], _ => rfl }
    x_InvalidName_ShadowError := PySem.W.exm_ref eC_1 hC_1 tC_1 sb_2_1
    k_InvalidName_ShadowError := ki_2_1
    x_InvalidName_InvalidName := PySem.W.exm_ref eC_2 hC_2 tC_2 sb_2_2
    k_InvalidName_InvalidName := ki_2_2
    x_InvalidName_InvalidText := PySem.W.exm_ref eC_3 hC_3 tC_3 sb_2_3
    k_InvalidName_InvalidText := ki_2_3
    S_InvalidName := ⟨rd_1, sg_1, it_1⟩
    g_InvalidText := PySem.W.mg_of X G a3
    E_InvalidText := { gC := PySem.W.mg_of X G a3, oex := ⟨⟨_, _, _, _, _, _, _, _, _, _, _, _, _, _, _, xL_3, rv_3⟩, sa_3, eC_3, tC_3, kC_3⟩, no := no_3, iC := iC_3, tI := tI_3, xf := ⟨ga_3, gg_3, eC_3, hC_3⟩, isa := isa_3, isn := isn_3, ist := ist_3, ism := ism_3, isc := isC_3, F := fun_mk (st := (topM 3 0)) l1060 c1060 k1060, b := (fun_mk (st := (topM 3 0)) l1060 c1060 k1060).binds (ps := ["self", "line"]) fun _ _ _ _ _ _ us hl => match us, hl with | [_, _], _ => rfl }
    x_InvalidText_ShadowError := PySem.W.exm_ref eC_1 hC_1 tC_1 sb_3_1
    k_InvalidText_ShadowError := ki_3_1
    x_InvalidText_InvalidName := PySem.W.exm_ref eC_2 hC_2 tC_2 sb_3_2
    k_InvalidText_InvalidName := ki_3_2
    x_InvalidText_InvalidText := PySem.W.exm_ref eC_3 hC_3 tC_3 sb_3_3
    k_InvalidText_InvalidText := ki_3_3
    S_InvalidText := ⟨rd_1, sg_1, it_1⟩
    F_is_name := fun_mk (st := topS 7) l7 c7 k7
    g_is_name := PySem.W.mg_of X G a7
    b_is_name := (fun_mk (st := topS 7) l7 c7 k7).binds (ps := ["text"]) fun _ _ _ _ _ _ us hl => match us, hl with | [_], _ => rfl
    F_is_full_name := fun_mk (st := topS 8) l8 c8 k8
    g_is_full_name := PySem.W.mg_of X G a8
    b_is_full_name := (fun_mk (st := topS 8) l8 c8 k8).binds (ps := ["text"]) fun _ _ _ _ _ _ us hl => match us, hl with | [_], _ => rfl
    F_is_number := fun_mk (st := topS 10) l10 c10 k10
    g_is_number := PySem.W.mg_of X G a10
    b_is_number := (fun_mk (st := topS 10) l10 c10 k10).binds (ps := ["text"]) fun _ _ _ _ _ _ us hl => match us, hl with | [_], _ => rfl
    F_parse_number := ⟨⟨_, _, _, _, _, _, _, _, _, _, rfl, l11, c11, .inl ⟨rfl, rfl⟩, .inr ⟨kd11, rfl, fun q hq => by simp only [List.mem_cons, List.not_mem_nil, or_false] at hq; rcases hq with rfl <;> first | exact ⟨_, q11_0, ⟨_, rfl⟩⟩ | exact ⟨_, q11_0, rfl⟩⟩⟩, k11⟩
    g_parse_number := PySem.W.mg_of X G a11
    b_parse_number := FunD.binds0 (kws := [("line", V.int 1)]) (ps := ["text", "line"]) ⟨⟨_, _, _, _, _, _, _, _, _, _, rfl, l11, c11, .inl ⟨rfl, rfl⟩, .inr ⟨kd11, rfl, fun q hq => by simp only [List.mem_cons, List.not_mem_nil, or_false] at hq; rcases hq with rfl <;> first | exact ⟨_, q11_0, ⟨_, rfl⟩⟩ | exact ⟨_, q11_0, rfl⟩⟩⟩, k11⟩ 1 (by simp) rfl fun _ _ _ _ _ _ us ks h1 h2 => match us, ks, h1, h2 with | [_], [_], _, _ => ⟨_, _, _, _, _, _, rfl, rfl, rfl⟩
    kn_parse_number := ⟨fun s us ws X l1 l2 => .of_eq (match us, ws, l1, l2 with | [_], [_], _, _ => rfl), fun r1 r2 => r1.append r2⟩
    F_number_lines := ⟨⟨_, _, _, _, _, _, _, _, _, _, rfl, l12, c12, .inl ⟨rfl, rfl⟩, .inr ⟨kd12, rfl, fun q hq => by simp only [List.mem_cons, List.not_mem_nil, or_false] at hq; rcases hq with rfl <;> first | exact ⟨_, q12_0, ⟨_, rfl⟩⟩ | exact ⟨_, q12_0, rfl⟩⟩⟩, k12⟩
    g_number_lines := PySem.W.mg_of X G a12
    b_number_lines := FunD.binds0 (kws := [("first", V.int 1)]) (ps := ["lines", "first"]) ⟨⟨_, _, _, _, _, _, _, _, _, _, rfl, l12, c12, .inl ⟨rfl, rfl⟩, .inr ⟨kd12, rfl, fun q hq => by simp only [List.mem_cons, List.not_mem_nil, or_false] at hq; rcases hq with rfl <;> first | exact ⟨_, q12_0, ⟨_, rfl⟩⟩ | exact ⟨_, q12_0, rfl⟩⟩⟩, k12⟩ 1 (by simp) rfl fun _ _ _ _ _ _ us ks h1 h2 => match us, ks, h1, h2 with | [_], [_], _, _ => ⟨_, _, _, _, _, _, rfl, rfl, rfl⟩
    kn_number_lines := ⟨fun s us ws X l1 l2 => .of_eq (match us, ws, l1, l2 with | [_], [_], _, _ => rfl), fun r1 r2 => r1.append r2⟩
    F_parse_names := ⟨⟨_, _, _, _, _, _, _, _, _, _, rfl, l14, c14, .inl ⟨rfl, rfl⟩, .inr ⟨kd14, rfl, fun q hq => by simp only [List.mem_cons, List.not_mem_nil, or_false] at hq; rcases hq with rfl <;> first | exact ⟨_, q14_0, ⟨_, rfl⟩⟩ | exact ⟨_, q14_0, rfl⟩⟩⟩, k14⟩
    g_parse_names := PySem.W.mg_of X G a14
    b_parse_names := FunD.binds0 (kws := [("line", V.int 1)]) (ps := ["words", "line"]) ⟨⟨_, _, _, _, _, _, _, _, _, _, rfl, l14, c14, .inl ⟨rfl, rfl⟩, .inr ⟨kd14, rfl, fun q hq => by simp only [List.mem_cons, List.not_mem_nil, or_false] at hq; rcases hq with rfl <;> first | exact ⟨_, q14_0, ⟨_, rfl⟩⟩ | exact ⟨_, q14_0, rfl⟩⟩⟩, k14⟩ 1 (by simp) rfl fun _ _ _ _ _ _ us ks h1 h2 => match us, ks, h1, h2 with | [_], [_], _, _ => ⟨_, _, _, _, _, _, rfl, rfl, rfl⟩
    kn_parse_names := ⟨fun s us ws X l1 l2 => .of_eq (match us, ws, l1, l2 with | [_], [_], _, _ => rfl), fun r1 r2 => r1.append r2⟩
    F__law_source := fun_mk (st := topS 16) l16 c16 k16
    g__law_source := PySem.W.mg_of X G a16
    b__law_source := (fun_mk (st := topS 16) l16 c16 k16).binds (ps := ["_law_script", "_law_k"]) fun _ _ _ _ _ _ us hl => match us, hl with | [_, _], _ => rfl
    F__law_draw := fun_mk (st := topS 17) l17 c17 k17
    g__law_draw := PySem.W.mg_of X G a17
    b__law_draw := (fun_mk (st := topS 17) l17 c17 k17).binds (ps := ["_law_source_here", "_law_limit"]) fun _ _ _ _ _ _ us hl => match us, hl with | [_, _], _ => rfl
    F__law_string := fun_mk (st := topS 18) l18 c18 k18
    g__law_string := PySem.W.mg_of X G a18
    b__law_string := (fun_mk (st := topS 18) l18 c18 k18).binds (ps := ["_law_source_here"]) fun _ _ _ _ _ _ us hl => match us, hl with | [_], _ => rfl
    F__law_integer := fun_mk (st := topS 19) l19 c19 k19
    g__law_integer := PySem.W.mg_of X G a19
    b__law_integer := (fun_mk (st := topS 19) l19 c19 k19).binds (ps := ["_law_text"]) fun _ _ _ _ _ _ us hl => match us, hl with | [_], _ => rfl
    F__law_number := fun_mk (st := topS 20) l20 c20 k20
    g__law_number := PySem.W.mg_of X G a20
    b__law_number := (fun_mk (st := topS 20) l20 c20 k20).binds (ps := ["_law_text", "_law_at"]) fun _ _ _ _ _ _ us hl => match us, hl with | [_, _], _ => rfl
    F__law_number_right := fun_mk (st := topS 21) l21 c21 k21
    g__law_number_right := PySem.W.mg_of X G a21
    b__law_number_right := (fun_mk (st := topS 21) l21 c21 k21).binds (ps := ["_law_source_here"]) fun _ _ _ _ _ _ us hl => match us, hl with | [_], _ => rfl
    F__law_words := fun_mk (st := topS 22) l22 c22 k22
    g__law_words := PySem.W.mg_of X G a22
    b__law_words := (fun_mk (st := topS 22) l22 c22 k22).binds (ps := ["_law_source_here"]) fun _ _ _ _ _ _ us hl => match us, hl with | [_], _ => rfl
    F__law_is_name := fun_mk (st := topS 23) l23 c23 k23
    g__law_is_name := PySem.W.mg_of X G a23
    b__law_is_name := (fun_mk (st := topS 23) l23 c23 k23).binds (ps := ["_law_word"]) fun _ _ _ _ _ _ us hl => match us, hl with | [_], _ => rfl
    F__law_names := fun_mk (st := topS 24) l24 c24 k24
    g__law_names := PySem.W.mg_of X G a24
    b__law_names := (fun_mk (st := topS 24) l24 c24 k24).binds (ps := ["_law_words_here", "_law_at"]) fun _ _ _ _ _ _ us hl => match us, hl with | [_, _], _ => rfl
    F__law_names_right := fun_mk (st := topS 25) l25 c25 k25
    g__law_names_right := PySem.W.mg_of X G a25
    b__law_names_right := (fun_mk (st := topS 25) l25 c25 k25).binds (ps := ["_law_source_here"]) fun _ _ _ _ _ _ us hl => match us, hl with | [_], _ => rfl
    F__law_numbered_right := fun_mk (st := topS 26) l26 c26 k26
    g__law_numbered_right := PySem.W.mg_of X G a26
    b__law_numbered_right := (fun_mk (st := topS 26) l26 c26 k26).binds (ps := ["_law_source_here"]) fun _ _ _ _ _ _ us hl => match us, hl with | [_], _ => rfl
    F_law := fun_mk (st := topS 27) l27 c27 k27
    g_law := PySem.W.mg_of X G a27
    b_law := (fun_mk (st := topS 27) l27 c27 k27).binds (ps := ["_law_script"]) fun _ _ _ _ _ _ us hl => match us, hl with | [_], _ => rfl
    z_len := PySem.W.mg_none_of X G z_len
    z_int := PySem.W.mg_none_of X G z_int
    z_str := PySem.W.mg_none_of X G z_str
    z_bool := PySem.W.mg_none_of X G z_bool
    z_list := PySem.W.mg_none_of X G z_list
    z_tuple := PySem.W.mg_none_of X G z_tuple
    z_range := PySem.W.mg_none_of X G z_range
    z_enumerate := PySem.W.mg_none_of X G z_enumerate
    z_sorted := PySem.W.mg_none_of X G z_sorted
    z_isinstance := PySem.W.mg_none_of X G z_isinstance
    c_LETTERS := ⟨t_LETTERS, PySem.W.mg_of X G x_LETTERS⟩
    c_DIGITS := ⟨t_DIGITS, PySem.W.mg_of X G x_DIGITS⟩
  }
  exact ⟨D 27, fun s v => .of_eq rfl, fun base _ _ => ok_law T⟩
theorem walk {l : PySem.W.OpenLaw} {q : Program} {loose : List Str} {XP : (Str → Option Value) → Heap → Prop} {YP : World → Heap → Prop} {d : DefRec} {K : Params → PySem.W.Frag} (hn : l.most = some 63) (hdf : d.params.defaults = [])
    (hY : ∀ (w : World) (h : Heap), YP w h → (K w.params).In h)
    (F : ∀ (w : World) (mg : Str → Option Value) (fa : Addr) (h : Heap), (K w.params).In h → h.Ns mainGlobals mg → mg d.name = some (.ref fa) →
      ∃ fd : FuncData, (∀ (s : Shared) (u : Value), BindsTo s fd ⟨[u], []⟩ [("_law_script", u)]) ∧ ∀ base : Heap, (K w.params).In base → base.Ns mainGlobals mg → FnOk l.prog w (K w.params) mg base CX0 6 fa fd ["_law_script"] (sp_law (K w.params))) :
    PySem.W.WalkO q loose XP YP l.row.toRowW d [] (fun f vs => PySem.call f vs) :=
  L2.walk_of (n := 63) (k := 6) (x := "_law_script") (CX := fun _ => CX0) (sp := fun w => sp_law (K w.params)) hn (by decide) hdf ⟨rfl, by decide, by decide⟩ hY F (fun _ H a ns hl hO hS => ⟨a, ns, rfl, hS, hl, fun _ => rfl⟩) fun _ _ _ _ _ z => z
end Sl
open PySem PySem.W PyProof.Rows
set_option maxRecDepth 100000 in
set_option maxHeartbeats 0 in
theorem PySem.Challenge.cw_shadowlinks_k03_numbers_and_names_in_tex_holds : PySem.Challenge.rw_shadowlinks_k03_numbers_and_names_in_tex.Holds := by
  w_on; o_law; k_head; (case hw => w_witness2)
  k_fill
  refine Sl.walk (l := PySem.Challenge.rw_shadowlinks_k03_numbers_and_names_in_tex) rfl rfl (fun w h Y => PySem.W.kIn_of Y) ?F
  case F =>
    intro w mg fa h KX G hmg
    refine' Sl.all_mk KX G hmg ?a1 ?a2 ?a3 ?xL_2 ?rv_2 ?sa_2 ?ga_2 ?gg_2 ?no_2 ?iC_2 ?tI_2 ?kC_2 ?eC_2 ?tC_2 ?hC_2 ?isC_2 ?isa_2 ?isn_2 ?ist_2 ?ism_2 ?l1040 ?c1040 ?k1040 ?xL_3 ?rv_3 ?sa_3 ?ga_3 ?gg_3 ?no_3 ?iC_3 ?tI_3 ?kC_3 ?eC_3 ?tC_3 ?hC_3 ?isC_3 ?isa_3 ?isn_3 ?ist_3 ?ism_3 ?l1060 ?c1060 ?k1060 ?sb_2_1 ?ki_2_1 ?eC_1 ?tC_1 ?hC_1 ?sb_2_2 ?ki_2_2 ?sb_2_3 ?ki_2_3 ?rd_1 ?sg_1 ?it_1 ?sb_3_1 ?ki_3_1 ?sb_3_2 ?ki_3_2 ?sb_3_3 ?ki_3_3 ?a7 ?l7 ?c7 ?k7 ?a8 ?l8 ?c8 ?k8 ?a10 ?l10 ?c10 ?k10 ?a11 ?l11 ?c11 ?k11 ?q11_0 ?a12 ?l12 ?c12 ?k12 ?q12_0 ?a14 ?l14 ?c14 ?k14 ?q14_0 ?a16 ?l16 ?c16 ?k16 ?a17 ?l17 ?c17 ?k17 ?a18 ?l18 ?c18 ?k18 ?a19 ?l19 ?c19 ?k19 ?a20 ?l20 ?c20 ?k20 ?a21 ?l21 ?c21 ?k21 ?a22 ?l22 ?c22 ?k22 ?a23 ?l23 ?c23 ?k23 ?a24 ?l24 ?c24 ?k24 ?a25 ?l25 ?c25 ?k25 ?a26 ?l26 ?c26 ?k26 ?a27 ?l27 ?c27 ?k27 ?z_len ?z_int ?z_str ?z_bool ?z_list ?z_tuple ?z_range ?z_enumerate ?z_sorted ?z_isinstance ?x_LETTERS ?x_DIGITS
    (case a1 => k_is)
    (case a2 => k_is)
    (case a3 => k_is)
    (case xL_2 => k_is)
    (case rv_2 => decide +kernel)
    (case sa_2 => k_is)
    (case ga_2 => k_is)
    (case gg_2 => k_is)
    (case no_2 => k_is)
    (case iC_2 => k_is)
    (case tI_2 => k_is)
    (case kC_2 => k_is)
    (case eC_2 => k_is)
    (case tC_2 => k_is)
    (case hC_2 => k_is)
    (case isC_2 => k_is)
    (case isa_2 => k_is)
    (case isn_2 => k_is)
    (case ist_2 => k_is)
    (case ism_2 => k_is)
    (case l1040 => k_is)
    (case c1040 => k_is)
    (case k1040 => k_is)
    (case xL_3 => k_is)
    (case rv_3 => decide +kernel)
    (case sa_3 => k_is)
    (case ga_3 => k_is)
    (case gg_3 => k_is)
    (case no_3 => k_is)
    (case iC_3 => k_is)
    (case tI_3 => k_is)
    (case kC_3 => k_is)
    (case eC_3 => k_is)
    (case tC_3 => k_is)
    (case hC_3 => k_is)
    (case isC_3 => k_is)
    (case isa_3 => k_is)
    (case isn_3 => k_is)
    (case ist_3 => k_is)
    (case ism_3 => k_is)
    (case l1060 => k_is)
    (case c1060 => k_is)
    (case k1060 => k_is)
    (case sb_2_1 => first | rfl | k_is)
    (case ki_2_1 => first | kit_is | k_is)
    (case eC_1 => k_is)
    (case tC_1 => k_is)
    (case hC_1 => k_is)
    (case sb_2_2 => first | rfl | k_is)
    (case ki_2_2 => first | kit_is | k_is)
    (case sb_2_3 => first | rfl | k_is)
    (case ki_2_3 => first | kit_is | k_is)
    (case rd_1 => k_is)
    (case sg_1 => k_is)
    (case it_1 => k_is)
    (case sb_3_1 => first | rfl | k_is)
    (case ki_3_1 => first | kit_is | k_is)
    (case sb_3_2 => first | rfl | k_is)
    (case ki_3_2 => first | kit_is | k_is)
    (case sb_3_3 => first | rfl | k_is)
    (case ki_3_3 => first | kit_is | k_is)
    (case a7 => k_is)
    (case l7 => k_is)
    (case c7 => k_is)
    (case k7 => k_is)
    (case a8 => k_is)
    (case l8 => k_is)
    (case c8 => k_is)
    (case k8 => k_is)
    (case a10 => k_is)
    (case l10 => k_is)
    (case c10 => k_is)
    (case k10 => k_is)
    (case a11 => k_is)
    (case l11 => k_is)
    (case c11 => k_is)
    (case k11 => k_is)
    (case q11_0 => k_is)
    (case a12 => k_is)
    (case l12 => k_is)
    (case c12 => k_is)
    (case k12 => k_is)
    (case q12_0 => k_is)
    (case a14 => k_is)
    (case l14 => k_is)
    (case c14 => k_is)
    (case k14 => k_is)
    (case q14_0 => k_is)
    (case a16 => k_is)
    (case l16 => k_is)
    (case c16 => k_is)
    (case k16 => k_is)
    (case a17 => k_is)
    (case l17 => k_is)
    (case c17 => k_is)
    (case k17 => k_is)
    (case a18 => k_is)
    (case l18 => k_is)
    (case c18 => k_is)
    (case k18 => k_is)
    (case a19 => k_is)
    (case l19 => k_is)
    (case c19 => k_is)
    (case k19 => k_is)
    (case a20 => k_is)
    (case l20 => k_is)
    (case c20 => k_is)
    (case k20 => k_is)
    (case a21 => k_is)
    (case l21 => k_is)
    (case c21 => k_is)
    (case k21 => k_is)
    (case a22 => k_is)
    (case l22 => k_is)
    (case c22 => k_is)
    (case k22 => k_is)
    (case a23 => k_is)
    (case l23 => k_is)
    (case c23 => k_is)
    (case k23 => k_is)
    (case a24 => k_is)
    (case l24 => k_is)
    (case c24 => k_is)
    (case k24 => k_is)
    (case a25 => k_is)
    (case l25 => k_is)
    (case c25 => k_is)
    (case k25 => k_is)
    (case a26 => k_is)
    (case l26 => k_is)
    (case c26 => k_is)
    (case k26 => k_is)
    (case a27 => k_is)
    (case l27 => k_is)
    (case c27 => k_is)
    (case k27 => k_is)
    (case z_len => k_is)
    (case z_int => k_is)
    (case z_str => k_is)
    (case z_bool => k_is)
    (case z_list => k_is)
    (case z_tuple => k_is)
    (case z_range => k_is)
    (case z_enumerate => k_is)
    (case z_sorted => k_is)
    (case z_isinstance => k_is)
    (case x_LETTERS => k_is)
    (case x_DIGITS => k_is)
