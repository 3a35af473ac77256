import PyProof.Rows.All
import Wide.All
import OpenK.AllK
import Wide.FinOn
import HandS.ForMost
import HandS.Walk
import HandS.IsInst
import HandS.Wide
import HandS.Gcd
import HandS.Star
import HandS.Flow
import HandS.EndBits
import HandS.Conv
import HandS.Deep
import HandS.TupAny
import HandS.Codes
import KE.SortData
import KE.SortKeyHeap
import KE.DataCmp
import KE.DataEq
import HandS.Style
import HandS.ExcInit
import HandS.ClsMeth
import HandS.ExcField
import HandS.ExcIs
import HandS.Defaults
import HandS.Iter
import HandS.FStr
import HandS.Text
import HandS.StrMore
import KE.IntTextLaws
import HandS.MakeKwOnly
import HandS.CallSlots
import HandS.WordsExc
import HandS.ExcOwn
import HandS.TryOnly
import KE.KExcIs
import HandS.Property
import HandS.IterVal
import KE.KOpsOwn
import KE.KOwnIter
import HandS.TryMany
import HandS.OwnIter
import HandS.TupMul
import PySem.Challenge.RW_shadowlinks_k02_parts
set_option Elab.async false
set_option linter.all false
set_option maxRecDepth 100000
set_option maxHeartbeats 4000000
namespace Sl
open PySem PySem.Spec PyProof.Rows L2

/-- a tuple, as it stands or held -/
def isTup : HO → Bool
  | .tup _ => true
  | .frz _ (.tup _) => true
  | _ => false
/-- a new address -/
structure Fr (H : Hp) (p : Addr) : Prop where
  eq : H p = none
/-- all stands but what is at A (tuples stand anyway) -/
def Kp (A : List Addr) (H H' : Hp) : Prop := ∀ a o, H a = some o → (a ∉ A ∨ isTup o = true) → H' a = some o
section
variable {A B : List Addr} {H H' H1 H2 : Hp} {p q a : Addr} {o o' u : HO}
theorem Kp.refl : Kp A H H := fun _ _ h _ => h
theorem Kp.trans (x : Kp A H H1) (y : Kp A H1 H2) : Kp A H H2 := fun a o h k => y a o (x a o h k) k
theorem Kp.sub (x : Kp A H H') (h : ∀ a ∈ A, a ∈ B) : Kp B H H' := fun a o e k => x a o e (k.imp (fun n m => n (h a m)) id)
theorem Kp.nil (x : Kp [] H H') : Kp B H H' := x.sub fun _ h => nomatch h
theorem Kp.of_same (x : Same H H') : Kp A H H' := fun a o h _ => x a o h
theorem Kp.same (x : Kp [] H H') : Same H H' := fun a o h => x a o h (.inl (by simp))
theorem Kp.new (h : H p = none) : Kp A H (upd H p o) := fun a u e _ => by
  rw [upd_ne (ne_of_none e h)]; exact e
theorem Kp.own (h : H p = some o) (t : isTup o = false) (m : p ∈ A) : Kp A H (upd H p o') := fun a u e k => by
  by_cases z : a = p
  · subst z
    rw [h] at e
    cases e
    rcases k with k | k
    · exact absurd m k
    · rw [t] at k; cases k
  · rw [upd_ne z]; exact e
/-- a new one, then changed: nothing that stood is touched -/
theorem Kp.back (h : H p = none) (x : Kp (p :: A) H H') : Kp A H H' := fun a o e k => x a o e (k.imp (fun n => by
  simp only [List.mem_cons, not_or]
  exact ⟨ne_of_none e h, n⟩) id)
/-- a change at what was new -/
theorem Kp.put (x : Kp A H H1) (h : H p = none) : Kp A H (upd H1 p o) := fun a u e k => by
  rw [upd_ne (ne_of_none e h)]; exact x a u e k
theorem Kp.none (x : Kp A H H') (n : a ∉ A) (h : H' a = none) : H a = none := by
  cases e : H a with
  | none => rfl
  | some o => have := x _ _ e (.inl n); rw [h] at this; cases this
theorem Kp.get (x : Kp A H H') (h : H a = some o) (k : a ∉ A ∨ isTup o = true) : H' a = some o := x a o h k
theorem Kp.rd (x : Kp A H H') (h : Rd H a o) (n : a ∉ A) : Rd H' a o := by
  rcases h with h | ⟨z, h⟩
  · exact .inl (x _ _ h (.inl n))
  · exact .inr ⟨z, x _ _ h (.inl n)⟩
theorem Kp.sqT {K : PySem.W.Frag} {xs : List V} (x : Kp A H H') (h : SqT K H a xs) : SqT K H' a xs := by
  rcases h with (h | ⟨z, h⟩) | h
  · exact .inl (.inl (x _ _ h (.inr rfl)))
  · exact .inl (.inr ⟨z, x _ _ h (.inr rfl)⟩)
  · exact .inr h
theorem Kp.sqL {K : PySem.W.Frag} {xs : List V} (x : Kp A H H') (n : a ∉ A) (h : SqL K H a xs) : SqL K H' a xs := by
  rcases h with h | h
  · exact .inl (x.rd h n)
  · exact .inr h
theorem Fr.ne (f : Fr H q) (h : H p = some o) : p ≠ q := ne_of_none h f.eq
theorem ne_kind (h : H p = some o) (h' : H q = some u) (d : o ≠ u) : p ≠ q := ne_of h h' d
end

/-! ### data that stands -/
section
variable (A : List Addr) (K : PySem.W.Frag) (H : Hp)
mutual
inductive Dv : V → PyData → Prop
  | non : Dv .non .none
  | bl (b : Bool) : Dv (.bl b) (.bool b)
  | int (i : Int) : Dv (.int i) (.int i)
  | str (x : Str) : Dv (.str x) (.str x)
  | lst {a : Addr} {xs : List V} {ds : List PyData} : Rd H a (.lst xs) → a ∉ A → DvAll xs ds → Dv (.ref a) (.list ds)
  | tup {a : Addr} {xs : List V} {ds : List PyData} : SqT K H a xs → DvAll xs ds → Dv (.ref a) (.tuple ds)
inductive DvAll : List V → List PyData → Prop
  | nil : DvAll [] []
  | cons {v : V} {vs : List V} {d : PyData} {ds : List PyData} : Dv v d → DvAll vs ds → DvAll (v :: vs) (d :: ds)
end
end
section
variable {A B : List Addr} {K : PySem.W.Frag} {H H' : Hp} {p q a : Addr} {o o' u : HO} {v : V} {d : PyData}
mutual
theorem Dv.kp (k : Kp A H H') : ∀ {v : V} {d : PyData}, Dv A K H v d → Dv A K H' v d
  | _, _, .non => .non
  | _, _, .bl b => .bl b
  | _, _, .int i => .int i
  | _, _, .str x => .str x
  | _, _, .lst h n t => .lst (k.rd h n) n (DvAll.kp k t)
  | _, _, .tup h t => .tup (k.sqT h) (DvAll.kp k t)
theorem DvAll.kp (k : Kp A H H') : ∀ {vs : List V} {ds : List PyData}, DvAll A K H vs ds → DvAll A K H' vs ds
  | _, _, .nil => .nil
  | _, _, .cons h t => .cons (Dv.kp k h) (DvAll.kp k t)
end
mutual
theorem Dv.sub (k : ∀ a ∈ B, a ∈ A) : ∀ {v : V} {d : PyData}, Dv A K H v d → Dv B K H v d
  | _, _, .non => .non
  | _, _, .bl b => .bl b
  | _, _, .int i => .int i
  | _, _, .str x => .str x
  | _, _, .lst h n t => .lst h (fun m => n (k _ m)) (DvAll.sub k t)
  | _, _, .tup h t => .tup h (DvAll.sub k t)
theorem DvAll.sub (k : ∀ a ∈ B, a ∈ A) : ∀ {vs : List V} {ds : List PyData}, DvAll A K H vs ds → DvAll B K H vs ds
  | _, _, .nil => .nil
  | _, _, .cons h t => .cons (Dv.sub k h) (DvAll.sub k t)
end
theorem rd_ne (h : H p = none) (r : Rd H a o) : a ≠ p := by
  rcases r with r | ⟨z, r⟩
  · exact ne_of_none r h
  · exact ne_of_none r h
mutual
/-- a new address is none of the data's -/
theorem Dv.more (h : H p = none) : ∀ {v : V} {d : PyData}, Dv A K H v d → Dv (p :: A) K H v d
  | _, _, .non => .non
  | _, _, .bl b => .bl b
  | _, _, .int i => .int i
  | _, _, .str x => .str x
  | _, _, .lst r n t => .lst r (by simp only [List.mem_cons, not_or]; exact ⟨rd_ne h r, n⟩) (DvAll.more h t)
  | _, _, .tup r t => .tup r (DvAll.more h t)
theorem DvAll.more (h : H p = none) : ∀ {vs : List V} {ds : List PyData}, DvAll A K H vs ds → DvAll (p :: A) K H vs ds
  | _, _, .nil => .nil
  | _, _, .cons r t => .cons (Dv.more h r) (DvAll.more h t)
end
mutual
def flatT : PyData → Bool
  | .list _ => false
  | .dict _ => false
  | .tuple ds => flatTs ds
  | _ => true
def flatTs : List PyData → Bool
  | [] => true
  | d :: ds => flatT d && flatTs ds
end
mutual
theorem Dv.any : ∀ {v : V} {d : PyData}, flatT d = true → Dv A K H v d → Dv B K H v d
  | _, _, _, .non => .non
  | _, _, _, .bl b => .bl b
  | _, _, _, .int i => .int i
  | _, _, _, .str x => .str x
  | _, _, e, .lst r n t => by simp [flatT] at e
  | _, _, e, .tup r t => .tup r (DvAll.any (by simpa [flatT] using e) t)
theorem DvAll.any : ∀ {vs : List V} {ds : List PyData}, flatTs ds = true → DvAll A K H vs ds → DvAll B K H vs ds
  | _, _, _, .nil => .nil
  | _, _, e, .cons r t => by
    simp only [flatTs, Bool.and_eq_true] at e
    exact .cons (Dv.any e.1 r) (DvAll.any e.2 t)
end
theorem flatTs_map {α : Type} {f : α → PyData} (h : ∀ x, flatT (f x) = true) : ∀ xs : List α, flatTs (xs.map f) = true
  | [] => rfl
  | x :: xs => by rw [List.map_cons, flatTs, h x, flatTs_map h xs]; rfl
mutual
theorem Dv.dp : ∀ {v : V} {d : PyData}, Dv A K H v d → Dp K H v d
  | _, _, .non => .non
  | _, _, .bl b => .bl b
  | _, _, .int i => .int i
  | _, _, .str x => .str x
  | _, _, .lst h n t => .lst (.inl h) (DvAll.dp t)
  | _, _, .tup h t => .tup h (DvAll.dp t)
theorem DvAll.dp : ∀ {vs : List V} {ds : List PyData}, DvAll A K H vs ds → DpAll K H vs ds
  | _, _, .nil => .nil
  | _, _, .cons h t => .cons (Dv.dp h) (DvAll.dp t)
end
theorem DvAll.length : ∀ {vs : List V} {ds : List PyData}, DvAll A K H vs ds → vs.length = ds.length
  | _, _, .nil => rfl
  | _, _, .cons _ t => congrArg Nat.succ (DvAll.length t)
theorem DvAll.at : ∀ {vs : List V} {ds : List PyData} {i : Nat} {v : V}, DvAll A K H vs ds → vs[i]? = some v → ∃ d, ds[i]? = some d ∧ Dv A K H v d
  | _, _, i, v, .nil, h => by simp at h
  | _, _, 0, v, .cons h _, e => by cases e; exact ⟨_, rfl, h⟩
  | _, _, i + 1, v, .cons _ t, e => DvAll.at (i := i) t e
theorem DvAll.at' : ∀ {vs : List V} {ds : List PyData} {i : Nat} {d : PyData}, DvAll A K H vs ds → ds[i]? = some d → ∃ v, vs[i]? = some v ∧ Dv A K H v d
  | _, _, i, v, .nil, h => by simp at h
  | _, _, 0, v, .cons h _, e => by cases e; exact ⟨_, rfl, h⟩
  | _, _, i + 1, v, .cons _ t, e => DvAll.at' (i := i) t e
theorem DvAll.app : ∀ {vs ws : List V} {ds es : List PyData}, DvAll A K H vs ds → DvAll A K H ws es → DvAll A K H (vs ++ ws) (ds ++ es)
  | _, _, _, _, .nil, h => h
  | _, _, _, _, .cons h t, r => .cons h (DvAll.app t r)
theorem DvAll.one (h : Dv A K H v d) : DvAll A K H [v] [d] := .cons h .nil
theorem DvAll.snoc {vs : List V} {ds : List PyData} (t : DvAll A K H vs ds) (h : Dv A K H v d) : DvAll A K H (vs ++ [v]) (ds ++ [d]) := t.app (.one h)
theorem DvAll.strs : ∀ {vs : List V} {ss : List Str}, DvAll A K H vs (ss.map .str) → vs = ss.map V.str
  | _, [], .nil => rfl
  | _, s :: ss, .cons h t => by
    cases h
    rw [List.map_cons, DvAll.strs t]
theorem DvAll.ints : ∀ {vs : List V} {ss : List Int}, DvAll A K H vs (ss.map .int) → vs = ss.map V.int
  | _, [], .nil => rfl
  | _, s :: ss, .cons h t => by
    cases h
    rw [List.map_cons, DvAll.ints t]
theorem dv_strs : ∀ (ss : List Str), DvAll A K H (ss.map V.str) (ss.map .str)
  | [] => .nil
  | s :: ss => .cons (.str s) (dv_strs ss)
theorem dv_ints : ∀ (ss : List Int), DvAll A K H (ss.map V.int) (ss.map .int)
  | [] => .nil
  | s :: ss => .cons (.int s) (dv_ints ss)
theorem Dv.tup_inv {ds : List PyData} (h : Dv A K H v (.tuple ds)) : ∃ a xs, v = .ref a ∧ SqT K H a xs ∧ DvAll A K H xs ds := by
  cases h with
  | tup r t => exact ⟨_, _, rfl, r, t⟩
theorem Dv.lst_inv {ds : List PyData} (h : Dv A K H v (.list ds)) : ∃ a xs, v = .ref a ∧ Rd H a (.lst xs) ∧ a ∉ A ∧ DvAll A K H xs ds := by
  cases h with
  | lst r n t => exact ⟨_, _, rfl, r, n, t⟩
theorem Dv.str_inv {s : Str} (h : Dv A K H v (.str s)) : v = .str s := by cases h; rfl
theorem Dv.int_inv {s : Int} (h : Dv A K H v (.int s)) : v = .int s := by cases h; rfl
theorem Dv.bl_inv {s : Bool} (h : Dv A K H v (.bool s)) : v = .bl s := by cases h; rfl
theorem Dv.non_inv (h : Dv A K H v .none) : v = .non := by cases h; rfl
end

theorem sz {n : Nat} (h : n ≤ 100000) : n ≤ sizeLine := Nat.le_trans h (by decide)
theorem szl {n : Nat} (h : n < 100000) : n < sizeLine := Nat.lt_of_lt_of_le h (by decide)
/-! ### the source of draws -/
def Src (H : Hp) (a : Addr) : Prop := ∃ n c : Int, H a = some (.lst [.int n, .int c])
theorem Src.kp {A : List Addr} {H H' : Hp} {a : Addr} (k : Kp A H H') (n : a ∉ A) (h : Src H a) : Src H' a := by
  obtain ⟨x, y, e⟩ := h
  exact ⟨x, y, k _ _ e (.inl n)⟩
end Sl
namespace Sl
open PySem PySem.Spec PyProof.Rows L2
section
variable {X : Cx} {CX : CXT} {k : Nat} {f : Addr} {sp : Sp} {E : XK} {x : Str} {e : Expr} {es : List Expr} {t : TA} {p pos : Pos}
/-- f(e, ..), f of any binding, by a positional promise -/
theorem pe_callF (F : FnR X.prog X.w X.K X.mg X.base CX k f sp) (hr : Room k X.A) (hk : PySem.W.keepIn X.K (.ref f) = true) (hg : Gl X x) (hm : X.mg x = some (.ref f)) (hx : Passes CX X E) (ha : PA X (e :: es) t) (hdb : (x == ("__debug__" : Str)) = false := by decide)
    (he : starEach (e :: es) X.env = (false, eval e X.env) :: starEach es X.env := by rfl) (hpl : (backTo pos (starEach es X.env)).any (·.1) = false := by rfl) :
    PE X (.Call (.Name x p) (e :: es) [] pos) (fun σ H Q => t σ H fun vs H1 => sp vs H1 Q E) := by
  refine ⟨fun pins s σ H Q I h => ?_⟩
  refine wpAny_Call_Name_kw (ld_glob I hg hm ?_ hdb)
  refine PySem.W.callWith_K (h₀ := X.base) I.ok.mod.kin hk (thn (ha.run pos pins s σ H _ I h) fun us s1 ⟨vs, H1, I1, r, q⟩ => ⟨I1.kIn, ?_⟩) he hpl
  exact wpAny_call (run_fnR F hr hx I1 r q)
/-- f(), f of any binding -/
theorem pe_callF0 (F : FnR X.prog X.w X.K X.mg X.base CX k f sp) (hr : Room k X.A) (hg : Gl X x) (hm : X.mg x = some (.ref f)) (hk : PySem.W.keepIn X.K (.ref f) = true) (hx : Passes CX X E)
    (hdb : (x == ("__debug__" : Str)) = false := by decide) : PE X (.Call (.Name x p) [] [] pos) (fun _ H Q => sp [] H Q E) := by
  refine ⟨fun pins s σ H Q I h => ?_⟩
  refine wpAny_Call_Name_kw (ld_glob I hg hm ?_ hdb)
  exact PySem.W.callWith_K0 I.kIn hk (wpAny_call (run_fnR F hr hx I .nil h))
/-- def f(.., *v): n written, the rest a new tuple -/
def star (n : Nat) (sp : Sp) : Sp := fun vs H Q E => ∃ ws rest, vs = ws ++ rest ∧ ws.length = n ∧ rest.length ≤ sizeLine ∧ ∀ p, H p = Option.none → sp (ws ++ [V.ref p]) (upd H p (.tup rest)) Q E
end
end Sl
namespace Sl
open PySem PySem.Spec PyProof.Rows L2
/-! ### two readings of one term -/
section
variable {X : Cx}
theorem pi_or {tg e : Expr} {w1 w2 : TI} (h1 : PI X tg e w1) (h2 : PI X tg e w2) : PI X tg e (fun σ H R => w1 σ H R ∨ w2 σ H R) :=
  ⟨fun pins s σ H R I h => h.elim (h1.run pins s σ H R I) (h2.run pins s σ H R I)⟩
theorem pe_or2 {e : Expr} {t1 t2 : TE} (h1 : PE X e t1) (h2 : PE X e t2) : PE X e (fun σ H Q => t1 σ H Q ∨ t2 σ H Q) :=
  ⟨fun pins s σ H R I h => h.elim (h1.run pins s σ H R I) (h2.run pins s σ H R I)⟩
theorem pt_or2 {e : Expr} {t1 t2 : TT} (h1 : PT X e t1) (h2 : PT X e t2) : PT X e (fun σ H Q => t1 σ H Q ∨ t2 σ H Q) :=
  ⟨fun pins s σ H R I h => h.elim (h1.run pins s σ H R I) (h2.run pins s σ H R I)⟩
theorem op_or2 {f : Value → Value → Sem Value} {r1 r2 : R2} (h1 : OpR X f r1) (h2 : OpR X f r2) : OpR X f (fun x y H Q => r1 x y H Q ∨ r2 x y H Q) :=
  fun pins s σ H x y v u Q I rx ry h => h.elim (h1 pins s σ H x y v u Q I rx ry) (h2 pins s σ H x y v u Q I rx ry)
theorem cr_or2 {f : Value} {r1 r2 : List V → Hp → VK → Prop} (h1 : CallR X f r1) (h2 : CallR X f r2) : CallR X f (fun xs H Q => r1 xs H Q ∨ r2 xs H Q) :=
  fun pins s σ H xs us Q I r h => h.elim (h1 pins s σ H xs us Q I r) (h2 pins s σ H xs us Q I r)
end
theorem nox_ex {X : Cx} {b : List Stmt} {R : TS → Prop} (h : ∃ t, PSs X.nox b t ∧ R t) : ∃ t, PSs X b t ∧ R t := by
  obtain ⟨t, h1, h2⟩ := h
  exact ⟨t, h1.nox, h2⟩
/-! ### texts in ascending order -/
def slt (a b : Str) : Prop := TL.tl a < TL.tl b
instance (a b : Str) : Decidable (slt a b) := inferInstanceAs (Decidable (TL.tl a < TL.tl b))
theorem ltCps_iff : ∀ a b : List Nat, ltCps a b = true ↔ a < b
  | [], [] => by simp [ltCps]
  | [], b :: bs => by simp [ltCps]
  | a :: as, [] => by simp [ltCps]
  | a :: as, b :: bs => by
    have ih := ltCps_iff as bs
    simp only [ltCps, List.cons_lt_cons_iff, Bool.or_eq_true, Bool.and_eq_true, decide_eq_true_eq, beq_iff_eq, ih]
theorem slt_trans {a b c : Str} (h : slt a b) (h' : slt b c) : slt a c := List.lt_trans h h'
theorem slt_irrefl (a : Str) : ¬ slt a a := List.lt_irrefl _
theorem slt_tri (a b : Str) : slt a b ∨ a = b ∨ slt b a := by
  by_cases h : slt a b
  · exact .inl h
  · by_cases h' : slt b a
    · exact .inr (.inr h')
    · exact .inr (.inl (TL.ext_tl (List.le_antisymm (List.not_lt.mp h') (List.not_lt.mp h))))
theorem slt_asymm {a b : Str} (h : slt a b) : ¬ slt b a := fun h' => slt_irrefl _ (slt_trans h h')
/-- strictly ascending -/
def Asc (l : List Str) : Prop := l.Pairwise slt
theorem rising_pw : ∀ (p : Str) (l : List Str), risingS p l = true → (p :: l).Pairwise (fun a b => ¬ slt b a)
  | p, [], _ => List.pairwise_singleton _ _
  | p, x :: r, h => by
    simp only [risingS, Bool.and_eq_true, Bool.not_eq_true'] at h
    have ih := rising_pw x r h.2
    have hpx : ¬ slt x p := fun z => by rw [(ltCps_iff _ _).mpr z] at h; exact Bool.noConfusion h.1
    refine List.pairwise_cons.mpr ⟨fun y hy => ?_, ih⟩
    rcases List.mem_cons.mp hy with e | e
    · subst e; exact hpx
    · intro z
      have hxy := (List.pairwise_cons.mp ih).1 y e
      rcases slt_tri x y with q | q | q
      · exact hpx (slt_trans q z)
      · subst q; exact hpx z
      · exact hxy q
theorem asc_of_sorted {l : List Str} (h : sortedS l = true) (nd : l.Nodup) : Asc l := by
  cases l with
  | nil => exact List.Pairwise.nil
  | cons x r =>
    have hp := rising_pw x r h
    refine List.Pairwise.imp₂ (fun a b h1 h2 => ?_) hp nd
    rcases slt_tri a b with q | q | q
    · exact q
    · exact absurd q h2
    · exact absurd q h1
theorem Asc.nodup {l : List Str} (h : Asc l) : l.Nodup := h.imp fun q e => by subst e; exact slt_irrefl _ q
/-- ascending lists with the same members are one -/
theorem Asc.ext : ∀ {l m : List Str}, Asc l → Asc m → (∀ x, x ∈ l ↔ x ∈ m) → l = m
  | [], [], _, _, _ => rfl
  | [], y :: m, _, _, h => absurd ((h y).mpr (List.mem_cons_self ..)) List.not_mem_nil
  | x :: l, [], _, _, h => absurd ((h x).mp (List.mem_cons_self ..)) List.not_mem_nil
  | x :: l, y :: m, hl, hm, h => by
    have h1 := List.pairwise_cons.mp hl
    have h2 := List.pairwise_cons.mp hm
    have e : x = y := by
      rcases List.mem_cons.mp ((h x).mp (List.mem_cons_self ..)) with e | e
      · exact e
      · rcases List.mem_cons.mp ((h y).mpr (List.mem_cons_self ..)) with e' | e'
        · exact e'.symm
        · exact absurd (slt_trans (h2.1 x e) (h1.1 y e')) (slt_irrefl _)
    subst e
    rw [Asc.ext h1.2 h2.2 fun z => ?_]
    constructor
    · intro hz
      rcases List.mem_cons.mp ((h z).mp (List.mem_cons_of_mem _ hz)) with e | e
      · subst e; exact absurd (h1.1 _ hz) (slt_irrefl _)
      · exact e
    · intro hz
      rcases List.mem_cons.mp ((h z).mpr (List.mem_cons_of_mem _ hz)) with e | e
      · subst e; exact absurd (h2.1 _ hz) (slt_irrefl _)
      · exact e
/-- a list or a tuple -/
def Sq (K : PySem.W.Frag) (H : Hp) (a : Addr) (xs : List V) : Prop := SqL K H a xs ∨ SqT K H a xs
/-- one for each -/
def All2 {α β : Type} (R : α → β → Prop) : List α → List β → Prop
  | [], [] => True
  | x :: xs, y :: ys => R x y ∧ All2 R xs ys
  | _, _ => False
theorem All2.at {α β : Type} {R : α → β → Prop} : ∀ {xs : List α} {ys : List β} {i : Nat} {x : α}, All2 R xs ys → xs[i]? = some x → ∃ y, ys[i]? = some y ∧ R x y
  | [], _, _, _, _, e => by simp at e
  | x :: xs, [], _, _, h, _ => False.elim h
  | x :: xs, y :: ys, 0, _, h, e => by cases e; exact ⟨y, rfl, h.1⟩
  | x :: xs, y :: ys, i + 1, _, h, e => All2.at (i := i) h.2 e
theorem All2.length {α β : Type} {R : α → β → Prop} : ∀ {xs : List α} {ys : List β}, All2 R xs ys → xs.length = ys.length
  | [], [], _ => rfl
  | [], _ :: _, h => False.elim h
  | _ :: _, [], h => False.elim h
  | x :: xs, y :: ys, h => congrArg Nat.succ (All2.length h.2)
theorem All2.imp {α β : Type} {R S : α → β → Prop} (k : ∀ x y, R x y → S x y) : ∀ {xs : List α} {ys : List β}, All2 R xs ys → All2 S xs ys
  | [], [], _ => trivial
  | [], _ :: _, h => False.elim h
  | _ :: _, [], h => False.elim h
  | x :: xs, y :: ys, h => ⟨k _ _ h.1, All2.imp k h.2⟩
theorem All2.snoc {α β : Type} {R : α → β → Prop} : ∀ {xs : List α} {ys : List β} {x : α} {y : β}, All2 R xs ys → R x y → All2 R (xs ++ [x]) (ys ++ [y])
  | [], [], _, _, _, h => ⟨h, trivial⟩
  | [], _ :: _, _, _, h, _ => False.elim h
  | _ :: _, [], _, _, h, _ => False.elim h
  | x :: xs, y :: ys, _, _, h, k => ⟨h.1, All2.snoc h.2 k⟩
end Sl
namespace Sl
open PySem PySem.Spec PyProof.Rows L2
/-! ### tests whose answer is told -/
/-- the answer is b, the heap stands -/
def An (t : TT) (σ : L2.St) (H : Hp) (b : Bool) : Prop := ∀ Q : Bool → Hp → Prop, Q b H → t σ H Q
/-- the value is v, the heap stands -/
def Vl (t : TE) (σ : L2.St) (H : Hp) (v : V) : Prop := ∀ Q : VK, Q v H → t σ H Q
section
variable {σ : L2.St} {H : Hp} {t u c : TT} {a b : Bool} {ta tb : TE} {x y z v : V} {D : Ends} {t1 t2 s2 : TS}
theorem an_and (h1 : An t σ H a) (h2 : a = true → An u σ H b) : An (tAnd t u) σ H (a && b) := fun Q q => by
  refine h1 _ ?_
  cases a with
  | true => exact h2 rfl Q q
  | false => exact q
theorem an_or (h1 : An t σ H a) (h2 : a = false → An u σ H b) : An (tOr t u) σ H (a || b) := fun Q q => by
  refine h1 _ ?_
  cases a with
  | true => exact q
  | false => exact h2 rfl Q q
theorem an_not (h1 : An t σ H a) : An (tNot t) σ H (!a) := fun Q q => h1 _ q
theorem an_cmp {r : R2} (h1 : Vl ta σ H x) (h2 : Vl tb σ H y) (hr : ∀ Q : VK, Q (.bl b) H → r x y H Q) : An (tTest (tOp r ta tb)) σ H b := fun Q q => h1 _ (h2 _ (hr _ ⟨b, rfl, q⟩))
theorem an_val (h1 : Vl ta σ H (.bl b)) : An (tB ta) σ H b := fun Q q => h1 _ ⟨b, rfl, q⟩
theorem an_test (h1 : Vl ta σ H (.bl b)) : An (tTest ta) σ H b := fun Q q => h1 _ ⟨b, rfl, q⟩
theorem vl_var {i : Nat} (h : σ[i]? = some (some v)) : Vl (tVar i) σ H v := fun Q q => ⟨v, h, q⟩
theorem vl_c : Vl (tC v) σ H v := fun Q q => q
theorem vl_op {r : R2} (h1 : Vl ta σ H x) (h2 : Vl tb σ H y) (hr : ∀ Q : VK, Q z H → r x y H Q) : Vl (tOp r ta tb) σ H z := fun Q q => h1 _ (h2 _ (hr _ q))
theorem vl_un {r : V → Hp → VK → Prop} (h1 : Vl ta σ H x) (hr : ∀ Q : VK, Q z H → r x H Q) : Vl (tUn r ta) σ H z := fun Q q => h1 _ (hr _ q)
theorem vl_cb1 {r : List V → Hp → VK → Prop} (h1 : Vl ta σ H x) (hr : ∀ Q : VK, Q z H → r [x] H Q) : Vl (tCB r (tCons ta tNil)) σ H z := fun Q q => h1 _ (hr _ q)
theorem vl_cb2 {r : List V → Hp → VK → Prop} (h1 : Vl ta σ H x) (h2 : Vl tb σ H y) (hr : ∀ Q : VK, Q z H → r [x, y] H Q) : Vl (tCB r (tCons ta (tCons tb tNil))) σ H z := fun Q q => h1 _ (h2 _ (hr _ q))
theorem vl_chain {r r' : R2} {tc : TE} {w : V} (h1 : Vl ta σ H x) (h2 : Vl tb σ H y) (h3 : a = true → Vl tc σ H w) (hr : ∀ Q : VK, Q (.bl a) H → r x y H Q) (hr' : a = true → ∀ Q : VK, Q (.bl b) H → r' y w H Q) : Vl (tChain r r' ta tb tc) σ H (.bl (a && b)) := fun Q q => by
  refine h1 _ (h2 _ (hr _ ⟨a, rfl, ?_⟩))
  cases a with
  | true => exact h3 rfl _ (hr' rfl _ q)
  | false => exact q
theorem vl_not (h1 : Vl ta σ H (.bl a)) : Vl (tNotV ta) σ H (.bl (!a)) := fun Q q => h1 _ ⟨a, rfl, q⟩
theorem vl_andV (h1 : Vl ta σ H (.bl a)) (h2 : a = true → Vl tb σ H (.bl b)) : Vl (tAndV ta tb) σ H (.bl (a && b)) := fun Q q => h1 _ ⟨a, rfl, by
  cases a with
  | true => exact h2 rfl _ q
  | false => exact q⟩
theorem vl_orV (h1 : Vl ta σ H (.bl a)) (h2 : a = false → Vl tb σ H (.bl b)) : Vl (tOrV ta tb) σ H (.bl (a || b)) := fun Q q => h1 _ ⟨a, rfl, by
  cases a with
  | true => exact q
  | false => exact h2 rfl _ q⟩
theorem if_an (h : An c σ H b) (k1 : b = true → t1 D σ H) (k2 : b = false → t2 D σ H) : tIfS c t1 t2 D σ H := by
  refine h _ ?_
  cases b with
  | true => exact k1 rfl
  | false => exact k2 rfl
theorem seq_if (h : An c σ H b) (k1 : b = true → t1 { D with nx := s2 D } σ H) (k2 : b = false → t2 { D with nx := s2 D } σ H) : tSeq (tIfS c t1 t2) s2 D σ H := if_an h k1 k2
theorem seq_if0 (h : An c σ H b) (k1 : b = true → t1 { D with nx := s2 D } σ H) (k2 : b = false → s2 D σ H) : tSeq (tIfS c t1 tNext) s2 D σ H := if_an h k1 k2
theorem seq_ifK0 (h : t σ H fun b H' => if b = true then t1 { D with nx := s2 D } σ H' else s2 D σ H') : tSeq (tIfS t t1 tNext) s2 D σ H := h
theorem seq_set {i : Nat} (h : Vl ta σ H v) (k : s2 D (σ.set i (some v)) H) : tSeq (tAsg ta (gName i)) s2 D σ H := h _ k
theorem seq_setK {i : Nat} (h : ta σ H fun v H' => s2 D (σ.set i (some v)) H') : tSeq (tAsg ta (gName i)) s2 D σ H := h
theorem setK {i : Nat} (h : ta σ H fun v H' => D.nx (σ.set i (some v)) H') : tAsg ta (gName i) D σ H := h
theorem seq_dropK (h : ta σ H fun _ H' => s2 D σ H') : tSeq (tDrop ta) s2 D σ H := h
theorem dropK' (h : ta σ H fun _ H' => D.nx σ H') : tDrop ta D σ H := h
theorem retK (h : ta σ H D.rt) : tRet ta D σ H := h
theorem if_anK (h : t σ H fun b H' => if b = true then t1 D σ H' else t2 D σ H') : tIfS t t1 t2 D σ H := h
theorem seq_ifK (h : t σ H fun b H' => if b = true then t1 { D with nx := s2 D } σ H' else t2 { D with nx := s2 D } σ H') : tSeq (tIfS t t1 t2) s2 D σ H := h
theorem seq_forK {wi : TI} {g : TG} {tb : TS} (h : tFor wi g tb { D with nx := s2 D } σ H) : tSeq (tFor wi g tb) s2 D σ H := h
theorem seq_whileK {c : TT} {tb : TS} (h : tWhile c tb { D with nx := s2 D } σ H) : tSeq (tWhile c tb) s2 D σ H := h
theorem seq_parK {i j : Nat} {ta : TA} (h : ta σ H fun vs H1 => ∃ v w, vs = [v, w] ∧ s2 D ((σ.set i (some v)).set j (some w)) H1) : tSeq (tPar i j ta) s2 D σ H := h
theorem parK {i j : Nat} {ta : TA} (h : ta σ H fun vs H1 => ∃ v w, vs = [v, w] ∧ D.nx ((σ.set i (some v)).set j (some w)) H1) : tPar i j ta D σ H := h
theorem gnK {i : Nat} {v : V} {Q : L2.St → Hp → Prop} (h : Q (σ.set i (some v)) H) : gName i v σ H Q := h
theorem yesK {Q : Bool → Hp → Prop} (h : Q true H) : tYes σ H Q := h
theorem nextK (h : D.nx σ H) : tNext D σ H := h
theorem ret_vl (h : Vl ta σ H v) (k : D.rt v H) : tRet ta D σ H := h _ k
theorem An.to (h : An t σ H a) (e : a = b) : An t σ H b := e ▸ h
theorem Vl.to (h : Vl ta σ H x) (e : x = y) : Vl ta σ H y := e ▸ h
end
/-- two ways that meet -/
theorem cutK {t u : TS} {D : Ends} {σ : L2.St} {H : Hp} (Mid : L2.St → Hp → Prop) (h1 : t { D with nx := Mid } σ H) (h2 : ∀ σ' H', Mid σ' H' → u D σ' H') : C8.tCut t u D σ H := ⟨Mid, h1, h2⟩
theorem an_use {c : TT} {σ : L2.St} {H : Hp} {b : Bool} {Q : Bool → Hp → Prop} (h : An c σ H b) (q : Q b H) : c σ H Q := h Q q
/-- a for and what stands behind it -/
theorem for_seq {J : It} {n : Nat} {G : Hp → Prop} {Y : Nat → Hp → V → Hp → Prop} (w : Walk J n G Y) {g : TG} {tb s2 : TS} {D : Ends} {σ : L2.St} {H : Hp} (Pv : Nat → L2.St → Hp → Prop) (h0 : Pv 0 σ H) (hG : ∀ i σ H, i ≤ n → Pv i σ H → G H)
    (hs : ∀ i x σ H H', i < n → Pv i σ H → Y i H x H' → g x σ H' fun σ2 H2 => tb { D with nx := Pv (i + 1), ct := Pv (i + 1), bk := s2 D } σ2 H2) (hd : ∀ σ H, Pv n σ H → s2 D σ H) :
    ∃ W : Nat → Nat → L2.St → Hp → Prop, (∃ m, W 0 m σ H) ∧ ∀ i m σ H, W i m σ H →
      (J.stop i H ∧ (Ends.mk (s2 D) D.rt D.bk D.ct).nx σ H) ∨ (J.go i H ∧ ∃ N : L2.St → Hp → Prop, (∀ σ' H', N σ' H' → ∃ m', m' < m ∧ W (i + 1) m' σ' H') ∧ ∀ x H', J.yld i H x H' → g x σ H' fun σ2 H2 => tb { (Ends.mk (s2 D) D.rt D.bk D.ct) with nx := N, ct := N, bk := (Ends.mk (s2 D) D.rt D.bk D.ct).nx } σ2 H2) :=
  for_it (D := Ends.mk (s2 D) D.rt D.bk D.ct) w Pv h0 hG hs hd
/-- one sign of a text -/
theorem sign_at {z : Str} {r : Int} (h0 : 0 ≤ r) (h1 : r < z.length) : ∃ c, atI z.cps.toList r = some c ∧ c ∈ TL.tl z := by
  obtain ⟨n, rfl⟩ := Int.eq_ofNat_of_zero_le h0
  have h : n < z.cps.toList.length := by
    have e : z.length = z.cps.toList.length := TL.len_tl z
    omega
  exact ⟨z.cps.toList[n], atI_nat (by simp), List.getElem_mem h⟩
end Sl
namespace Sl
open PySem PySem.Spec PyProof.Rows L2
/-! ### data of written depth -/
/-- all signs are signs -/
def okS (s : Str) : Prop := ∀ c ∈ TL.tl s, c < 1114112
theorem okS.ok {s : Str} (h : okS s) : PyData.canLay0 (.str s) = true := by
  show PyData.strOk s = true
  unfold PyData.strOk
  rw [Array.all_eq_true']
  intro c hc
  simpa using h c (Array.mem_toList_iff.mpr hc)
theorem lay_map {α : Type} {f : α → PyData} : ∀ {xs : List α}, (∀ x ∈ xs, (f x).canLay0 = true) → PyData.canLayAll0 (xs.map f) = true
  | [], _ => rfl
  | x :: xs, h => by
    rw [List.map_cons, PyData.canLayAll0, h x (List.mem_cons_self ..), lay_map fun y hy => h y (List.mem_cons_of_mem _ hy)]; rfl
theorem depth_map {α : Type} {f : α → PyData} {k : Nat} : ∀ {xs : List α}, (∀ x ∈ xs, (f x).depth ≤ k) → PyData.depthAll (xs.map f) ≤ k
  | [], _ => Nat.zero_le _
  | x :: xs, h => by
    rw [List.map_cons, PyData.depthAll]
    have h1 := h x (List.mem_cons_self ..)
    have h2 := depth_map (k := k) (xs := xs) fun y hy => h y (List.mem_cons_of_mem _ hy)
    omega
theorem shaped_of {d : PyData} (h : d.canLay0 = true) (h' : d.depth ≤ 64) : SeqAt.shaped d = true := by
  unfold SeqAt.shaped
  rw [h, decide_eq_true h']; rfl
theorem inV_strs {s : Str} : ∀ {ys : List Str}, inV (.str s) (ys.map V.str) = decide (s ∈ ys)
  | [] => rfl
  | y :: ys => by
    have ih := inV_strs (s := s) (ys := ys)
    unfold inV at ih ⊢
    rw [List.map_cons, List.any_cons, ih]
    show (y == s || decide (s ∈ ys)) = decide (s ∈ y :: ys)
    by_cases e : s = y
    · subst e; simp
    · have : (y == s) = false := by simp [Ne.symm e]
      rw [this]; simp [e]
theorem flat_strs (ys : List Str) : (ys.map V.str).all flatV = true := by
  rw [List.all_eq_true]
  intro v hv
  obtain ⟨s, _, rfl⟩ := List.mem_map.mp hv
  rfl
end Sl
namespace Sl
open PySem PySem.Spec PyProof.Rows L2
/-! ### rules by K alone (they go into a comprehension's block) -/
def rListOf (K : PySem.W.Frag) : List V → Hp → VK → Prop := fun xs H Q => ∃ p ys, xs = [.ref p] ∧ (SqL K H p ys ∨ SqT K H p ys) ∧ ∀ l, H l = none → Q (.ref l) (upd H l (.lst ys))
def rTupleOf (K : PySem.W.Frag) : List V → Hp → VK → Prop := fun xs H Q => ∃ p ys, xs = [.ref p] ∧ ((SqL K H p ys ∧ ∀ l, H l = none → Q (.ref l) (upd H l (.tup ys))) ∨ (SqT K H p ys ∧ Q (.ref p) H))
def rLenK (K : PySem.W.Frag) : List V → Hp → VK → Prop := fun xs H Q => ∃ x n, xs = [x] ∧ LenV K x H n ∧ Q (.int (n : Nat)) H
section
variable {X : Cx} {K : PySem.W.Frag}
theorem cK_list (e : X.K = K) : CallR X (.type "list") (rListOf K) := by subst e; exact call_list_of
theorem cK_tuple (e : X.K = K) : CallR X (.type "tuple") (rTupleOf K) := by subst e; exact call_tuple_of
theorem cK_len (e : X.K = K) : CallR X (.builtin "len") (rLenK K) := by subst e; exact call_len
theorem cK_isi (e : X.K = K) : CallR X (.builtin "isinstance") (rIsi K) := by subst e; exact call_isi
theorem cK_isiT (e : X.K = K) : CallR X (.builtin "isinstance") (rIsiT K) := by subst e; exact call_isiT
theorem cK_sortedS (e : X.K = K) : CallR X (.builtin "sorted") (rSortedS K) := by subst e; exact cr_sortedS
theorem xK_list (e : X.K = K) : IxR X (rIxL K) := by subst e; exact ix_list
theorem xK_tup (e : X.K = K) : IxR X (rIxT K) := by subst e; exact ix_tup
theorem xK_seq (e : X.K = K) : IxR X (rIx K) := by subst e; exact ix_seq
theorem oK_in (e : X.K = K) : OpR X (compareOp .In) (rIn K false) := by subst e; exact op_in_seq
theorem oK_nin (e : X.K = K) : OpR X (compareOp .NotIn) (rIn K true) := by subst e; exact op_notIn_seq
theorem oK_eqD (e : X.K = K) (hu : X.A.units + 64 < cLine) : OpR X (compareOp .Eq) (rEqD K) := by subst e; exact op_eqD hu
theorem oK_neD (e : X.K = K) (hu : X.A.units + 64 < cLine) : OpR X (compareOp .NotEq) (rNeD K) := by subst e; exact op_neD hu
theorem iK_list {tg l : Expr} {tl : TE} (e : X.K = K) (hl : PE X l tl) : PI X tg l (iList K tl) := by subst e; exact pi_list hl
theorem iK_tup {tg l : Expr} {tl : TE} (e : X.K = K) (hl : PE X l tl) : PI X tg l (iTup K tl) := by subst e; exact pi_tup hl
end
end Sl
namespace Sl
open PySem PySem.Spec PyProof.Rows L2
/-! ### comparisons of data, membership, sorted: over what reads as data -/
section
variable {X : Cx} {K : PySem.W.Frag}
def okD (d e : PyData) : Prop := PySem.W.alike d e = true ∧ d ≠ .none ∧ d.depth ≤ 32
def rLtP (K : PySem.W.Frag) : R2 := fun x y H Q => ∃ d e, Dp K H x d ∧ Dp K H y e ∧ okD d e ∧ Q (.bl (PySem.W.dataLt d e)) H
def rGeP (K : PySem.W.Frag) : R2 := fun x y H Q => ∃ d e, Dp K H x d ∧ Dp K H y e ∧ okD d e ∧ Q (.bl (!PySem.W.dataLt d e)) H
def rGtP (K : PySem.W.Frag) : R2 := fun x y H Q => ∃ d e, Dp K H x d ∧ Dp K H y e ∧ okD d e ∧ Q (.bl (PySem.W.dataLt e d)) H
def rLeP (K : PySem.W.Frag) : R2 := fun x y H Q => ∃ d e, Dp K H x d ∧ Dp K H y e ∧ okD d e ∧ Q (.bl (!PySem.W.dataLt e d)) H
theorem oP_lt (e : X.K = K) (hu : X.A.units + 64 < cLine) : OpR X (compareOp .Lt) (rLtP K) := by
  subst e
  intro pins s σ H x y v u Q I rx ry h
  obtain ⟨d, e, hd, he, ⟨h1, h2, h3⟩, q⟩ := h
  obtain ⟨as, r1⟩ := Dp.reads I d x v hd rx
  obtain ⟨bs, r2⟩ := Dp.reads I e y u he ry
  exact PySem.W.lt_data r1 r2 h1 h2 (by have := Nat.min_le_left d.depth e.depth; omega) ⟨.bl _, H, I, rfl, q⟩
theorem oP_ge (e : X.K = K) (hu : X.A.units + 64 < cLine) : OpR X (compareOp .GtE) (rGeP K) := by
  subst e
  intro pins s σ H x y v u Q I rx ry h
  obtain ⟨d, e, hd, he, ⟨h1, h2, h3⟩, q⟩ := h
  obtain ⟨as, r1⟩ := Dp.reads I d x v hd rx
  obtain ⟨bs, r2⟩ := Dp.reads I e y u he ry
  exact PySem.W.ge_data r1 r2 h1 h2 (by have := Nat.min_le_left d.depth e.depth; omega) ⟨.bl _, H, I, rfl, q⟩
theorem oP_gt (e : X.K = K) (hu : X.A.units + 64 < cLine) : OpR X (compareOp .Gt) (rGtP K) := by
  subst e
  intro pins s σ H x y v u Q I rx ry h
  obtain ⟨d, e, hd, he, ⟨h1, h2, h3⟩, q⟩ := h
  obtain ⟨as, r1⟩ := Dp.reads I d x v hd rx
  obtain ⟨bs, r2⟩ := Dp.reads I e y u he ry
  exact PySem.W.gt_data r1 r2 h1 h2 (by have := Nat.min_le_left d.depth e.depth; omega) ⟨.bl _, H, I, rfl, q⟩
theorem oP_le (e : X.K = K) (hu : X.A.units + 64 < cLine) : OpR X (compareOp .LtE) (rLeP K) := by
  subst e
  intro pins s σ H x y v u Q I rx ry h
  obtain ⟨d, e, hd, he, ⟨h1, h2, h3⟩, q⟩ := h
  obtain ⟨as, r1⟩ := Dp.reads I d x v hd rx
  obtain ⟨bs, r2⟩ := Dp.reads I e y u he ry
  exact PySem.W.le_data r1 r2 h1 h2 (by have := Nat.min_le_left d.depth e.depth; omega) ⟨.bl _, H, I, rfl, q⟩
/-- no dict within, not too deep -/
def pln (d : PyData) : Prop := d.plain = true ∧ d.depth ≤ 32
def rEqP (K : PySem.W.Frag) : R2 := fun x y H Q => ∃ d e, Dp K H x d ∧ Dp K H y e ∧ pln d ∧ pln e ∧ Q (.bl (PyData.eqv d e)) H
def rNeP (K : PySem.W.Frag) : R2 := fun x y H Q => ∃ d e, Dp K H x d ∧ Dp K H y e ∧ pln d ∧ pln e ∧ Q (.bl (!PyData.eqv d e)) H
theorem oP_eq (e : X.K = K) (hu : X.A.units + 64 < cLine) : OpR X (compareOp .Eq) (rEqP K) := by
  subst e
  intro pins s σ H x y v u Q I rx ry h
  obtain ⟨d, e, hd, he, ⟨h1, h3⟩, ⟨h2, _⟩, q⟩ := h
  obtain ⟨as, r1⟩ := Dp.reads I d x v hd rx
  obtain ⟨bs, r2⟩ := Dp.reads I e y u he ry
  exact PySem.SeqAt.eq_plain r1 r2 h1 h2 (by have := Nat.min_le_left d.depth e.depth; omega) ⟨.bl _, H, I, rfl, q⟩
theorem oP_ne (e : X.K = K) (hu : X.A.units + 64 < cLine) : OpR X (compareOp .NotEq) (rNeP K) := by
  subst e
  intro pins s σ H x y v u Q I rx ry h
  obtain ⟨d, e, hd, he, ⟨h1, h3⟩, ⟨h2, _⟩, q⟩ := h
  obtain ⟨as, r1⟩ := Dp.reads I d x v hd rx
  obtain ⟨bs, r2⟩ := Dp.reads I e y u he ry
  exact PySem.SeqAt.ne_plain r1 r2 h1 h2 (by have := Nat.min_le_left d.depth e.depth; omega) ⟨.bl _, H, I, rfl, q⟩
def rInP (K : PySem.W.Frag) (neg : Bool) : R2 := fun x y H Q => ∃ d ds, Dp K H x d ∧ (Dp K H y (.list ds) ∨ Dp K H y (.tuple ds)) ∧ pln d ∧ PyData.plainAll ds = true ∧ Q (.bl (if neg then !(ds.any fun z => PyData.eqv z d) else ds.any fun z => PyData.eqv z d)) H
theorem oP_in (e : X.K = K) (hu : X.A.units + 64 < cLine) : OpR X (compareOp .In) (rInP K false) := by
  subst e
  intro pins s σ H x y v u Q I rx ry h
  obtain ⟨d, ds, hd, he, ⟨h1, h3⟩, h2, q⟩ := h
  obtain ⟨as, r1⟩ := Dp.reads I d x v hd rx
  rcases he with he | he
  · obtain ⟨bs, r2⟩ := Dp.reads I _ y u he ry
    exact PySem.SeqAt.in_list_data r2 r1 h2 h1 (by have := Nat.min_le_right (PyData.depthAll ds) d.depth; omega) ⟨.bl _, H, I, rfl, q⟩
  · obtain ⟨bs, r2⟩ := Dp.reads I _ y u he ry
    exact PySem.SeqAt.in_tuple_data r2 r1 h2 h1 (by have := Nat.min_le_right (PyData.depthAll ds) d.depth; omega) ⟨.bl _, H, I, rfl, q⟩
theorem oP_nin (e : X.K = K) (hu : X.A.units + 64 < cLine) : OpR X (compareOp .NotIn) (rInP K true) := by
  subst e
  intro pins s σ H x y v u Q I rx ry h
  obtain ⟨d, ds, hd, he, ⟨h1, h3⟩, h2, q⟩ := h
  obtain ⟨as, r1⟩ := Dp.reads I d x v hd rx
  rcases he with he | he
  · obtain ⟨bs, r2⟩ := Dp.reads I _ y u he ry
    exact PySem.SeqAt.notIn_list_data r2 r1 h2 h1 (by have := Nat.min_le_right (PyData.depthAll ds) d.depth; omega) ⟨.bl _, H, I, rfl, q⟩
  · obtain ⟨bs, r2⟩ := Dp.reads I _ y u he ry
    exact PySem.SeqAt.notIn_tuple_data r2 r1 h2 h1 (by have := Nat.min_le_right (PyData.depthAll ds) d.depth; omega) ⟨.bl _, H, I, rfl, q⟩
/-- sorted(xs) of data -/
def rSortedP (K : PySem.W.Frag) : List V → Hp → VK → Prop := fun vs H Q => ∃ (a : Addr) (xs : List V) (ds : List PyData), vs = [.ref a] ∧ SqL K H a xs ∧ DpAll K H xs ds ∧ PySem.W.AllAlike ds ∧ PySem.W.Sortable ds ∧ (∀ d ∈ ds, d.depth ≤ 32) ∧
  ∀ ys p, DpAll K H ys (ds.mergeSort (PySem.W.dataLe false fun d => d)) → H p = none → Q (.ref p) (upd H p (.lst ys))
theorem each_of {H : Hp} : ∀ {xs : List V} {us : List Value} {ds : List PyData}, Vals xs us → DpAll K H xs ds → PySem.W.EachIs (fun u d => ∃ v, RelV v u ∧ Dp K H v d) us ds
  | _, _, _, .nil, .nil => .nil
  | _, _, _, .cons r rs, .cons h hs => .cons ⟨_, r, h⟩ (each_of rs hs)
theorem of_each {H : Hp} : ∀ {us : List Value} {ds : List PyData}, PySem.W.EachIs (fun u d => ∃ v, RelV v u ∧ Dp K H v d) us ds → ∃ xs, Vals xs us ∧ DpAll K H xs ds
  | _, _, .nil => ⟨[], .nil, .nil⟩
  | _, _, .cons ⟨v, r, h⟩ t => by
    obtain ⟨xs, rs, hs⟩ := of_each t
    exact ⟨v :: xs, .cons r rs, .cons h hs⟩
theorem each_mono {α β : Type} {R S : α → β → Prop} (k : ∀ a b, R a b → S a b) : ∀ {xs : List α} {ys : List β}, PySem.W.EachIs R xs ys → PySem.W.EachIs S xs ys
  | _, _, .nil => .nil
  | _, _, .cons h t => .cons (k _ _ h) (each_mono k t)
theorem dpAll_len {H : Hp} : ∀ {xs : List V} {ds : List PyData}, DpAll K H xs ds → xs.length = ds.length
  | _, _, .nil => rfl
  | _, _, .cons _ t => congrArg Nat.succ (dpAll_len t)
theorem cP_sorted (e : X.K = K) (hu : X.A.units + 64 < cLine) : CallR X (.builtin "sorted") (rSortedP K) := by
  subst e
  intro pins s σ H vs us Q I r h
  obtain ⟨a, xs, ds, rfl, hs, hd, ha, hk, hdep, q⟩ := h
  obtain ⟨its, rv, hl, hz⟩ := I.list hs
  rw [Vals.ref1 r]
  have e1 := each_of rv hd
  have ln : ds.length ≤ sizeLine := by rw [← dpAll_len hd]; exact hz
  refine PySem.W.sorted_data (enc := fun d => d) hl.isList e1 (each_mono (fun u d ⟨v, rv, hv⟩ => Dp.reads I d v u hv rv) e1) (by rw [List.map_id']; exact ha) (by rw [List.map_id']; exact hk) ln (fun d hm => by have := hdep d hm; omega) fun out ho h1 => ?_
  obtain ⟨ys, rv2, hy⟩ := of_each h1
  obtain ⟨ep, he'⟩ := PyProof.Rows.sortedAll_at s.heap its (List.toArray out)
  have hlen : ys.length ≤ sizeLine := by rw [rv2.length, ho]; exact ln
  exact ⟨.ref _, upd H (s.heap.objs.size + 1) (.lst ys), I.laid (t' := s.toks) (fun _ _ => PyProof.Rows.sortedAll_old) (Nat.le_succ _) ⟨hlen, out, ep, rv2, he'⟩, rfl, q ys _ hy (I.hok.fresh (Nat.le_succ _))⟩
/-- xs.extend(t), t a tuple -/
def rExtendT (K : PySem.W.Frag) : V → List V → Hp → VK → Prop := fun x vs H Q => ∃ l b xs zs, x = .ref l ∧ vs = [.ref b] ∧ H l = some (.lst xs) ∧ SqT K H b zs ∧ xs.length + zs.length ≤ sizeLine ∧ Q .non (upd H l (.lst (xs ++ zs)))
end
end Sl
namespace Sl
open PySem PySem.Spec PyProof.Rows L2
theorem ext_tup (l b : Addr) (zs ws : Array Value) (n m : Nat) (dd : Option Addr) (sl : Array (Option Value)) (hs0 : ¬(!zs.isEmpty && Builtin.List.listTooLong (zs.size + ws.size)) = true) (hs1 : zs.size ≤ sizeLine) (hs2 : zs.size + ws.size ≤ sizeLine + 1) :
    Meets (Builtin.«list.extend» ⟨[.ref l, .ref b], []⟩) (fun _ R s => s.heap.get? l = some { cls := .type "list", dict := none, data := .seq zs n, slots := #[] } ∧ s.heap.get? b = some { cls := .type "tuple", dict := dd, data := .seq ws m, slots := sl } ∧
      R (.ok (.ret Value.none)) { s with heap := s.heap.update l (Obj.mapSeq fun x => x ++ ws) }) :=
  .of_wp fun prog w A R s h => by
    obtain ⟨hp, g, d, tk, os⟩ := s
    obtain ⟨hl, hb, h⟩ := h
    have f1 := AutoSeq1.idx_int; have f2 := AutoSeq1.sub_tuple_tuple; have f3 := AutoSeq1.sub_list_list
    have f4 := AutoSeq1.sub_tuple_list; have f5 := AutoSeq1.sub_list_tuple
    have hz' : (zs ++ ws).size ≤ sizeLine + 1 := by rw [Array.size_append]; exact hs2
    wp_walk using (wpAny_updateSeq hl rfl (hz := hs1) (_hz' := hz')), AutoSeq1.wpAny_loadPart' hl, AutoSeq1.wpAny_loadPart' hb
    exact ⟨_, rfl, h⟩
section
variable {X : Cx} {K : PySem.W.Frag}
theorem mt_extendT (e : X.K = K) : MtM X "list.extend" (rExtendT K) := by
  subst e
  intro pins s σ H x vs v us Q I rx rv h
  obtain ⟨l, b, xs, zs, rfl, rfl, hH, hB, hz, q⟩ := h
  cases rx
  obtain ⟨u, rfl, ru⟩ := rv.one
  cases ru
  obtain ⟨z, its, n, r, hl, e⟩ := I.lstM hH
  obtain ⟨its2, r2, ⟨o2, e2, c2, n2, d2⟩, hz2⟩ := I.tuple hB
  obtain ⟨oc, od, dt, sl⟩ := o2
  simp only at c2 d2
  subst c2 d2
  have l1 := r.length
  have l2 := r2.length
  have hsz : its.toArray.size + its2.toArray.size ≤ sizeLine := by rw [List.size_toArray, List.size_toArray]; omega
  have hlong : ¬ (!its.toArray.isEmpty && Builtin.List.listTooLong (its.toArray.size + its2.toArray.size)) = true := by
    rw [notLongL hsz, Bool.and_false]
    exact Bool.false_ne_true
  refine call_meets F.slot_list_extend ⟨_, e, rfl⟩ F.entry_list_extend (F.args_list_extend_2 _ _) (ext_tup l b its.toArray its2.toArray n n2 od sl hlong (by rw [List.size_toArray]; omega) (by omega)) ⟨e, e2, ?_⟩
  refine ⟨.non, _, I.lset (its' := its ++ its2) hH e (by simp) (r.append r2) ?_, rfl, q⟩
  rw [List.length_append]
  omega
end
end Sl
namespace Sl
open PySem PySem.Spec PyProof.Rows L2
theorem sortsAt_short {prog : Program} {w : World} {A : Around} {s : Shared} {vs : List Value} {ds : List PyData} (e : PySem.W.EachIs (fun v d => ∃ as, Reads s.heap v d as) vs ds) (hal : PySem.W.AllAlike ds) (h1 : ds.length ≤ 1) (hn : ∀ d ∈ ds, d ≠ .none) (hu : ∀ d, d ∈ ds → A.units + d.depth < cLine) : PySem.W.SortsAt prog w A s (PySem.W.dataKind s.heap ds) vs := by
  refine ⟨fun v hv => ?_, general', fun E x y a b Q ha hb hq => ?_, fun h2 => ?_⟩
  · obtain ⟨d, hd, as, r⟩ := e.left v hv
    exact ⟨_, PySem.W.dataKind_some hal hd r⟩
  · obtain ⟨d, as, hd, ra, rfl⟩ := PySem.W.dataKind_inv ha
    obtain ⟨d', as', hd', rb, rfl⟩ := PySem.W.dataKind_inv hb
    exact PySem.W.oneLt_alike (f := false) (fun z => Bool.noConfusion z) ra rb (hal d hd d' hd') (hn d hd) (Nat.lt_of_le_of_lt (Nat.add_le_add_left (Nat.min_le_left _ _) _) (hu d hd)) hq
  · have := e.length
    omega
section
variable {X : Cx} {K : PySem.W.Frag}
def rSortedQ (K : PySem.W.Frag) : List V → Hp → VK → Prop := fun vs H Q => ∃ (a : Addr) (xs : List V) (ds : List PyData), vs = [.ref a] ∧ SqL K H a xs ∧ DpAll K H xs ds ∧ PySem.W.AllAlike ds ∧ (PySem.W.Sortable ds ∨ (ds.length ≤ 1 ∧ ∀ d ∈ ds, d ≠ .none)) ∧ (∀ d ∈ ds, d.depth ≤ 32) ∧
  ∀ ys p, DpAll K H ys (ds.mergeSort (PySem.W.dataLe false fun d => d)) → H p = none → Q (.ref p) (upd H p (.lst ys))
theorem cQ_sorted (e : X.K = K) (hu : X.A.units + 64 < cLine) : CallR X (.builtin "sorted") (rSortedQ K) := by
  subst e
  intro pins s σ H vs us Q I r h
  obtain ⟨a, xs, ds, rfl, hs, hd, ha, hk, hdep, q⟩ := h
  obtain ⟨its, rv, hl, hz⟩ := I.list hs
  rw [Vals.ref1 r]
  have e1 := each_of rv hd
  have ln : ds.length ≤ sizeLine := by rw [← dpAll_len hd]; exact hz
  have fin : ∀ out : List Value, out.length = ds.length → PySem.W.EachIs (fun u d => ∃ v, RelV v u ∧ Dp X.K H v d) out (ds.mergeSort (PySem.W.dataLe false fun d => d)) → ∃ v H', Inv X pins σ H' { s with heap := PyProof.Rows.sortedAll s.heap its (List.toArray out) } ∧ RelV v (.ref (s.heap.objs.size + 1)) ∧ Q v H' := fun out ho h1 => by
    obtain ⟨ys, rv2, hy⟩ := of_each h1
    obtain ⟨ep, he'⟩ := PyProof.Rows.sortedAll_at s.heap its (List.toArray out)
    have hlen : ys.length ≤ sizeLine := by rw [rv2.length, ho]; exact ln
    exact ⟨.ref _, upd H (s.heap.objs.size + 1) (.lst ys), I.laid (t' := s.toks) (fun _ _ => PyProof.Rows.sortedAll_old) (Nat.le_succ _) ⟨hlen, out, ep, rv2, he'⟩, rfl, q ys _ hy (I.hok.fresh (Nat.le_succ _))⟩
  rcases hk with hk | ⟨hk, hn⟩
  · exact PySem.W.sorted_data (enc := fun d => d) hl.isList e1 (each_mono (fun u d ⟨v, rv, hv⟩ => Dp.reads I d v u hv rv) e1) (by rw [List.map_id']; exact ha) (by rw [List.map_id']; exact hk) ln (fun d hm => by have := hdep d hm; omega) fin
  · have er' : PySem.W.EachIs (fun v b => ∃ as, Reads (PySem.W.sortingHeap (PySem.W.copyHeap s.heap its) (s.heap.objs.size + 1) its) v b as) its ds := each_mono (fun v b ⟨as, r⟩ => ⟨as, PyProof.Rows.Reads.keeps (fun _ _ => PySem.W.sorting_copy_old) r⟩) (each_mono (fun u d ⟨v, rv, hv⟩ => Dp.reads I d v u hv rv) e1)
    refine PySem.W.sorted_vals hl.isList (sortsAt_short (s := { s with heap := PySem.W.sortingHeap (PySem.W.copyHeap s.heap its) (s.heap.objs.size + 1) its }) er' ha hk hn (fun d hm => by have := hdep d hm; show _ + 2 + _ < _; omega)) (by rw [e1.length]; exact ln)
      (fin _ (by rw [PySem.W.sortVals_length false rfl]; exact e1.length) ?_)
    have := PySem.W.sortVals_data (h' := PySem.W.sortingHeap (PySem.W.copyHeap s.heap its) (s.heap.objs.size + 1) its) (enc := fun d : PyData => d) false e1 er' (by rw [List.map_id']; exact ha)
    rw [List.map_id'] at this
    exact this
end
/-- a, b = .. in a comprehension's block -/
theorem gK_tup {X : Cx} {K : PySem.W.Frag} (n : Nat) {es : List Expr} {k : Nat} {pos : Pos} {t : TGs} (e : X.K = K) (hc : X.calm = true) (h : PGs X es t)
    (hn : (assignEach es X.env).length = n := by rfl) (hst : (assignEach es X.env).findIdx? (·.1) = none := by rfl) : PG X (.Tuple es k pos) (gTup K n t) := e ▸ pg_tup hc h hn hst
end Sl
namespace Sl
open PySem PySem.Spec PyProof.Rows L2
/-- what the text says of the base class whose __init__ is ValueError's: at S -/
structure SeI (K : PySem.W.Frag) (S : Addr) (mc : Value) : Prop where
  rd : PySem.W.readsIn K S mc = true
  ga : PySem.W.specialIn K (.ref S) "__getattribute__" = some (some (.builtin "type.__getattribute__"))
  it : PySem.W.findCls K (.ref S) mc "__init__" = some (.val (.builtin "ValueError.__init__"))
section
variable {X : Cx} {o e : Expr} {es : List Expr} {to te : TE} {ta : TA} {f x : Str} {p p' p1 p2 pos : Pos}
/-- Base.__init__(self, ..), Base an own class over ValueError without __init__ -/
theorem pe_seinit {S : Addr} {mc : Value} {pl : Sem Bool} (T : SeI X.K S mc) (hg : Gl X x) (hm : X.mg x = some (.ref S)) (ha : PA X (e :: es) ta) (hdb : (x == ("__debug__" : Str)) = false := by decide)
    (hc : eval (.Call (.Attribute (.Name x p1) "__init__" p2) (e :: es) [] pos) X.env = (do
      let ov ← eval (.Name x p1) X.env
      standAt p2.atName
      let (f, first) ← holding [ov] (getMethod ov "__init__" pl)
      callWith pos f first (backTo pos (starEach (e :: es) X.env)) (backToKw pos (keywordEach [] X.env))) := by rfl)
    (he : starEach (e :: es) X.env = (false, eval e X.env) :: starEach es X.env := by rfl) (hpl : (backTo pos (starEach es X.env)).any (·.1) = false := by rfl) :
    PE X (.Call (.Attribute (.Name x p1) "__init__" p2) (e :: es) [] pos) (tVeI X.K ta) := by
  refine ⟨fun pins s σ H Q I h => ?_⟩
  refine PySem.W.methodCall_KW (ld_glob I hg hm ?_ hdb) hc
  refine PySem.W.method_cls I.kIn T.ga (PySem.W.cls_value I.kIn T.rd T.it rfl ?_)
  show wpAny _ _ (callWith pos (Value.builtin "ValueError.__init__") [] (backTo pos (starEach (e :: es) X.env)) []) _ _ _
  refine PyProof.Rows.callWith_method1 (thn (ha.run pos pins _ σ H _ (I.tok _) h) fun us s1 ⟨vs, H1, I1, r1, a, C, ws, ev, hl, T, ea, q⟩ => ?_) he hpl
  subst ev
  cases r1 with
  | @cons _ u0 _ ur ra rw' =>
    obtain rfl : u0 = Value.ref a := ra
    have hlen : ur.length ≤ sizeLine := by
      rw [← Paired.length rw', sizeLine_eq]
      omega
    exact oinit_ok T I1 ea hlen fun s' J => ⟨.non, H1, J, rfl, q⟩
end
end Sl
namespace Sl
open PySem PySem.Spec PyProof.Rows L2
/-- an own exception class with one field that its __init__ sets: x the class, at C; f the field; its __init__ at fI -/
structure ErrK (K : PySem.W.Frag) (mg : Str → Option Value) (x f : Str) (C fI : Addr) (qual : Str) (st : Stmt) (fd : FuncData) : Prop where
  gC : mg x = some (.ref C)
  oex : OexC K C
  no : PySem.W.findIn K (.ref C) f = some none
  iC : PySem.W.findIn K (.ref C) "__init__" = some (some (.ref fI))
  tI : PySem.W.typeIn K (.ref fI) = some (.type "function")
  xf : XfC K C
  isa : PySem.W.findIn K (.ref C) "__class__" = some (some (.builtin "object.__class__"))
  isn : PySem.W.specialIn K (.builtin "object.__class__") "__get__" = some (some (.builtin "getset_descriptor.__get__"))
  ist : PySem.W.takesIn K (.builtin "object.__class__") = some true
  ism : PySem.W.mroIn K C (.type "object") = some true
  isc : PySem.W.isClsIn K C = true
  F : Fun K "__init__" qual st fI fd
  b : Binds K fd ["self", f] []
def sp_err (C : Addr) (f : Str) : Sp := fun vs H Q _ => ∃ (a : Addr) (v : V), vs = [.ref a, v] ∧ H a = some (exo a C none) ∧ ∀ dx, H dx = none → dx ≠ a → Q .non (upd (upd H dx (exd dx [(f, v)])) a (exo a C (some dx)))
section
variable {X : Cx} {o e : Expr} {es : List Expr} {to te : TE} {ta : TA} {f x : Str} {p p' p1 p2 pos : Pos}
/-- the end of such a making -/
theorem mkO_of {C : Addr} {vs : List V} {H1 : Hp} {Q : XK} (h : ∃ v, vs = [v] ∧ ∀ d, H1 d = none → Q (.ref C) (some d) (upd H1 d (.xd [(f, v)]))) :
    vs.length ≤ 1000 ∧ ∀ a, H1 a = none → sp_err C f (.ref a :: (vs ++ [])) (upd H1 a (exo a C none))
      (fun v H2 => v = .non ∧ ∃ (d : Addr) (fs : List (Str × V)), H2 a = some (exo a C (some d)) ∧ H2 d = some (exd d fs) ∧ H1 d = none ∧ Q (.ref C) (some d) (upd (del H2 a) d (.xd fs))) (fun _ _ _ => False) := by
  obtain ⟨v, rfl, q⟩ := h
  refine ⟨by simp, fun a ha => ⟨a, v, rfl, upd_same, fun dx hdx ne => ⟨rfl, dx, [(f, v)], upd_same, ?_, ?_, ?_⟩⟩⟩
  · rw [upd_ne ne, upd_same]
  · rwa [upd_ne ne] at hdx
  · have hd : H1 dx = none := by rwa [upd_ne ne] at hdx
    have e : upd (del (upd (upd (upd H1 a (exo a C none)) dx (exd dx [(f, v)])) a (exo a C (some dx))) a) dx (.xd [(f, v)]) = upd H1 dx (.xd [(f, v)]) := by
      funext b
      by_cases h1 : b = dx
      · subst h1; rw [upd_same, upd_same]
      · rw [upd_ne h1, upd_ne h1]
        by_cases h2 : b = a
        · subst h2; rw [del_same, ha]
        · rw [del_ne h2, upd_ne h2, upd_ne h1, upd_ne h2]
    rw [e]
    exact q dx hd
/-- C(e) -/
theorem pmk_err {C fI : Addr} {qual : Str} {st : Stmt} {fd : FuncData} (T : ErrK X.K X.mg x f C fI qual st fd) (F1 : FnOk X.prog X.w X.K X.mg X.base CX0 1 fI fd ["self", f] (sp_err C f)) (hr : Room 2 X.A) (hg : Gl X x) (ha : PA X (e :: es) ta)
    (hdb : (x == ("__debug__" : Str)) = false := by decide) (he : starEach (e :: es) X.env = (false, eval e X.env) :: starEach es X.env := by rfl) (hpl : (backTo pos (starEach es X.env)).any (·.1) = false := by rfl) :
    PMk X (.Call (.Name x p) (e :: es) [] pos) (tMkO C (sp_err C f) [] ta) := pmk_oex T.oex T.iC T.tI F1 hr T.b .nil pass0 hg T.gC ha hdb he hpl
/-- isinstance(e, c), e the exception that the suite holds (its dict: d) -/
def rIsF (K : PySem.W.Frag) (C a : Addr) (cls : Value) (d : Option Addr) : List V → Hp → VK → Prop := fun xs H Q => ∃ (c : V) (cv : Value) (b : Bool) (dd : Addr) (fs : List (Str × V)), xs = [.ref a, c] ∧ cls = .ref C ∧ d = some dd ∧ H dd = some (.xd fs) ∧ ClsV c cv ∧ PySem.W.kitOne K (.ref C) cv = some b ∧ Q (.bl b) H
theorem call_isF {a C fI : Addr} {oe : Obj} {cls : Value} {d : Option Addr} {pn : List (Addr × Obj)} {qual : Str} {st : Stmt} {fd : FuncData} (T : ErrK X.K X.mg x f C fI qual st fd) (hz : Zc cls d oe) (hf : ∃ vs, oe.data = .fields vs) :
    CallR (X.suite a ((a, oe) :: pn)) (.builtin "isinstance") (rIsF X.K C a cls d) := by
  intro pins s σ H xs us Q I r h
  obtain ⟨c, cv, b, dd, fs, rfl, rfl, rfl, hd, hcv, e, q⟩ := h
  obtain ⟨u1, u2, rfl, r1, r2⟩ := vals2 r
  have e2 := hcv.eq r2
  subst e2
  cases (show u1 = Value.ref a from r1)
  obtain ⟨ha, _⟩ := I.pin (a, oe) (List.mem_append_left _ List.mem_cons_self)
  obtain ⟨vs, hv⟩ := hf
  have hx : ObjOk X.prog X.w H s.heap dd (.xd fs) := I.hok dd _ hd
  obtain ⟨mA, hns, hr⟩ := hx
  obtain ⟨od, ho, hl⟩ := lookIn_ns hns
  have J : PySem.W.InstAt s.heap a oe C (some od) := ⟨ha, hz.1, by unfold PySem.W.notCls; rw [hv] <;> rfl, by rw [hz.2]; exact ho⟩
  exact PySem.W.kia_one (PySem.W.kitx_exc (gt := none) T.isc T.xf.ga T.xf.gg T.xf.exC T.isa T.isn T.ist T.ism) I.kIn J e (fun z => nomatch z) fun tk => ⟨.bl b, H, I.tok tk, rfl, q⟩
end
end Sl
namespace Sl
open PySem PySem.Spec PyProof.Rows L2
/-- a call with keywords, what is raised wished for at the caller's slots -/
def tCallNS (n m : Nat) (sp : Sp) (gV : List V → List V → List V) (E : L2.St → XK) (t tk : TA) : TE := fun σ H Q => t σ H fun vs H1 => tk σ H1 fun zs H2 => vs.length = n ∧ zs.length = m ∧ sp (gV vs zs) H2 Q (E σ)
section
variable {X : Cx} {CX : CXT} {k n : Nat} {f : Addr} {fd : FuncData} {ps ks : List Str} {sp : Sp} {E : L2.St → XK} {x : Str} {p pos : Pos} {e : Expr} {es : List Expr} {kws : List Keyword} {t tk : TA} {g : List Value → List Value → List Value} {gV : List V → List V → List V}
theorem run_fnNS {pins : List (Addr × Obj)} {σ : L2.St} {H : Hp} {s : Shared} {Q : VK} {us ws : List Value} {vs zs : List V} (F : FnOk X.prog X.w X.K X.mg X.base CX k f fd ps sp) (hr : Room k X.A) (hb : KBn X.K fd ps n ks g gV) (hx : PassesAt CX X σ (E σ))
    (I : Inv X pins σ H s) (r : Vals vs us) (rz : Vals zs ws) (l1 : vs.length = n) (l2 : zs.length = ks.length) (h : sp (gV vs zs) H Q (E σ)) : wpAny (model X.prog X.w) X.A (call (.ref f) us (ks.zip ws)) (EP X pins σ Q) X.xe s := by
  have r2 := hb.rel r rz
  refine wpAny_call (codeAny_mono (F.run X.A X.stack s H ⟨us, ks.zip ws⟩ (g us ws) (gV vs zs) Q (E σ) hr I.env0 (hb.to s us ws I.kIn (r.length.symm.trans l1) (rz.length.symm.trans l2)) r2 h) fun r s' hq => ?_)
  cases r with
  | error e => exact hx pins H s e s' I hq
  | ok fl =>
    cases fl with
    | ret u => exact I.after hq
    | next => exact False.elim hq
    | brk => exact False.elim hq
    | cont => exact False.elim hq
theorem pe_callNS (F : FnOk X.prog X.w X.K X.mg X.base CX k f fd ps sp) (hr : Room k X.A) (hg : Gl X x) (hm : X.mg x = some (.ref f)) (hk : PySem.W.keepIn X.K (.ref f) = true) (hb : KBn X.K fd ps n ks g gV) (hx : ∀ σ, PassesAt CX X σ (E σ))
    (ha : PA X (e :: es) t) (hkw : PK X kws tk) (hall : (backToKw pos (keywordEach kws X.env)).all (·.1.isSome) = true := by rfl) (hks : (backToKw pos (keywordEach kws X.env)).filterMap (·.1) = ks := by rfl)
    (hdb : (x == ("__debug__" : Str)) = false := by decide) (he : starEach (e :: es) X.env = (false, eval e X.env) :: starEach es X.env := by rfl)
    (hpl : ((backTo pos (starEach (e :: es) X.env)).any (·.1) || (backToKw pos (keywordEach kws X.env)).any (·.1.isNone)) = false := by rfl) :
    PE X (.Call (.Name x p) (e :: es) kws pos) (tCallNS n ks.length sp gV E t tk) := by
  refine ⟨fun pins s σ H Q I h => ?_⟩
  refine wpAny_Call_Name_kw (ld_glob I hg hm ?_ hdb)
  refine PySem.W.callWith_KW (h₀ := X.base) I.ok.mod.kin hk hall (thn (ha.run pos pins s σ H _ I h) fun us s1 ⟨vs, H1, I1, r, q⟩ => ?_) hpl he
  refine thn (hkw.run pos pins s1 σ H1 _ I1 q) fun ws s2 ⟨zs, H2, I2, rz, l1, l2, q2⟩ => ⟨I2.kIn, ?_⟩
  rw [hks]
  exact run_fnNS F hr hb (hx σ) I2 r rz l1 l2 q2
end
end Sl
namespace Sl
open PySem PySem.Spec PyProof.Rows L2
/-- s * n -/
def rRepS : R2 := fun x y H Q => ∃ (s : Str) (n : Int), x = .str s ∧ y = .int n ∧ 0 ≤ n ∧ n ≤ 1000 ∧ s.length ≤ 1000 ∧ ∀ z : Str, TL.tl z = (List.replicate n.toNat (TL.tl s)).flatten → Q (.str z) H
theorem rep_tl (k : Nat) (a : Array Nat) : ∀ b : Array Nat, ((List.replicate k a).foldl (· ++ ·) b).toList = b.toList ++ (List.replicate k a.toList).flatten := by
  induction k with
  | zero => intro b; simp
  | succ k ih =>
    intro b
    rw [List.replicate_succ, List.foldl_cons, ih, Array.toList_append, List.replicate_succ, List.flatten_cons, List.append_assoc]
theorem op_rep_str {X : Cx} : OpR X (binaryOp .Mult) rRepS := by
  intro pins s σ H x y v u Q I rx ry h
  obtain ⟨z, n, rfl, rfl, h0, h1, h2, q⟩ := h
  obtain ⟨t, rfl⟩ := rx
  obtain ⟨t', rfl⟩ := ry
  have ez : z.length = (TL.tl z).length := TL.len_tl z
  refine PySem.P.mul_str (by rw [decide_eq_false (by omega), decide_eq_false (by omega)]; rfl) (fun a _ => ?_) (fun _ _ => ?_) ?_
  · intro hh
    have : (1000 : Int) ≤ (2 ^ 63 - 1) / n := by
      rw [Int.le_ediv_iff_mul_le (by omega)]
      omega
    omega
  · have hk : z.length * n.toNat ≤ 1000 * 1000 := Nat.mul_le_mul h2 (by omega)
    show decide (z.length * n.toNat > sizeLine) = false
    rw [decide_eq_false]
    rw [sizeLine_eq]; omega
  · by_cases c : n < 1
    · rw [if_pos c]
      refine ⟨by decide, .str Str.empty, H, I.tok _, ⟨_, rfl⟩, q _ ?_⟩
      have : n = 0 := by omega
      subst this
      rfl
    · rw [if_neg c]
      by_cases c2 : (n == 1 || z.length == 0) = true
      · rw [if_pos c2]
        refine ⟨.str z, H, I, ⟨_, rfl⟩, q _ ?_⟩
        simp only [Bool.or_eq_true, beq_iff_eq] at c2
        rcases c2 with c2 | c2
        · subst c2; simp
        · have : TL.tl z = [] := List.length_eq_zero_iff.mp (by omega)
          rw [this]; simp
      · rw [if_neg c2]
        refine ⟨?_, .str _, H, I.tok _, ⟨_, rfl⟩, q _ ?_⟩
        · show ((List.replicate n.toNat z.cps).foldl (· ++ ·) #[]).size ≤ sizeLine
          have e := rep_tl n.toNat z.cps #[]
          have e2 := congrArg List.length e
          rw [Array.length_toList] at e2
          rw [e2]
          have hk : n.toNat * z.length ≤ 1000 * 1000 := Nat.mul_le_mul (by omega) h2
          have ez2 : z.cps.toList.length = z.length := by rw [Array.length_toList]; rfl
          simp only [List.nil_append, List.length_flatten, List.map_replicate, List.sum_replicate_nat, ez2]
          rw [sizeLine_eq]; omega
        · exact (rep_tl n.toNat z.cps #[]).trans (by simp)
end Sl
namespace Sl
open PySem PySem.Spec PyProof.Rows L2

/-! Own classes: their methods behind len, in, operators, subscripts. E tells, by the caller's slots, what is wanted of an error -/
section
variable {X : Cx} {CX : CXT} {k : Nat} {f C : Addr} {fd : FuncData} {ps : List Str} {sp : Sp} {E : L2.St → XK} {dvs : List V} {ds : List Value}

/-- one of these defs run under an Around of the same room -/
theorem own_run {A' : Around} {E' : Value → Shared → Prop} {pins : List (Addr × Obj)} {σ : L2.St} {H : Hp} {s : Shared} {Q : VK} {e1 : XK} {us : List Value} {vs : List V} (F : FnOk X.prog X.w X.K X.mg X.base CX k f fd ps sp) (hr : Room k A')
    (e0 : Env0 X.prog X.w X.K X.mg X.base A' X.stack s H) (hb : Binds X.K fd ps ds) (hd : Vals dvs ds) (hx : ∀ e s', CX X.stack H s e1 e s' → E' e s') (I : Inv X pins σ H s) (r : Vals vs us) (h : sp (vs ++ dvs) H Q e1) :
    wpAny (model X.prog X.w) A' (call (.ref f) us) (EP X pins σ Q) E' s := by
  have r2 : Vals (vs ++ dvs) (us ++ ds) := r.append hd
  have hl : (us ++ ds).length = ps.length := by rw [← r2.length]; exact F.len _ _ _ _ h
  refine wpAny_call (codeAny_mono (F.run A' X.stack s H ⟨us, []⟩ (us ++ ds) (vs ++ dvs) Q e1 hr e0 (hb s us I.kIn hl) r2 h) fun r s' hq => ?_)
  cases r with
  | error e => exact hx e s' hq
  | ok fl =>
    cases fl with
    | ret u => exact I.after hq
    | _ => exact False.elim hq
theorem pas0 {E0' : XK} (h : Passes CX X E0') : ∀ σ, PassesAt CX X σ ((fun _ => E0') σ) := fun σ pins H s e s' I c => h pins σ H s e s' I c

/-- len(o) -/
def rLenO (C : Addr) (sp : Sp) (E : XK) : List V → Hp → VK → Prop := fun xs H Q => ∃ a dx fs, xs = [.ref a] ∧ H a = some (.ins C dx fs) ∧ sp [.ref a] H (fun v H' => ∃ n : Nat, v = .int (n : Int) ∧ n ≤ 1000000 ∧ Q (.int (n : Int)) H') E
theorem call_lenO {E : XK} (M : Meth X.K C "__len__" f) (F : FnOk X.prog X.w X.K X.mg X.base CX k f fd ps sp) (hr : Room (k + 1) X.A) (hb : Binds X.K fd ps []) (hx : Passes CX X E) : CallR X (.builtin "len") (rLenO C sp E) := by
  intro pins s σ H xs us Q I r h
  obtain ⟨a, dx, fs, rfl, ea, q⟩ := h
  rw [Vals.ref1 r]
  obtain ⟨mA, O, _, _, _, _⟩ := ins_get I.hok ea
  obtain ⟨od, J, _⟩ := O.look
  obtain ⟨m, Fm⟩ := I.fr
  refine PySem.W.len_K Fm I.ok.mod.kin J M.at_ M.fn (wpAny_mono (own_run (dvs := []) F hr.in1 I.env0.in1 hb .nil (fun e s' c => hx pins σ H s e s' I c) I (us := [.ref a]) (vs := [.ref a]) (.cons rfl .nil) q) (fun v s' hv => ?_) fun _ _ z => z)
  obtain ⟨x, H', I2, rx, n, rfl, hn, q2⟩ := hv
  obtain ⟨t, rfl⟩ := rx
  exact ⟨⟨by omega, by omega⟩, .int (n : Int), H', I2.tok _, ⟨_, rfl⟩, q2⟩

/-- y in o, y not in o -/
def rInO (b : Bool) (C : Addr) (sp : Sp) (E : XK) : R2 := fun y x H Q => ∃ a dx fs, x = .ref a ∧ H a = some (.ins C dx fs) ∧ sp [.ref a, y] H (fun v H' => ∃ c, v = .bl c ∧ Q (.bl (b ^^ c)) H') E
theorem op_inO {E : XK} (M : Meth X.K C "__contains__" f) (F : FnOk X.prog X.w X.K X.mg X.base CX k f fd ps sp) (hr : Room k X.A) (hb : Binds X.K fd ps []) (hx : Passes CX X E) : OpR X (compareOp .In) (rInO false C sp E) := by
  intro pins s σ H y x v u Q I ry rx h
  obtain ⟨a, dx, fs, rfl, ea, q⟩ := h
  cases rx
  obtain ⟨mA, O, _, _, _, _⟩ := ins_get I.hok ea
  obtain ⟨od, J, _⟩ := O.look
  obtain ⟨m, Fm⟩ := I.fr
  refine PySem.W.in_K Fm I.ok.mod.kin J M.at_ M.fn (wpAny_mono (own_run (dvs := []) F hr I.env0 hb .nil (fun e s' c => hx pins σ H s e s' I c) I (us := [.ref a, v]) (vs := [.ref a, y]) (.cons rfl (.cons ry .nil)) q) (fun w s' hv => ?_) fun _ _ z => z)
  obtain ⟨z, H', I2, rz, c, rfl, q2⟩ := hv
  obtain rfl : w = .bool c := rz
  exact wpAny_pure ⟨.bl (false ^^ c), H', I2, by cases c <;> rfl, q2⟩
theorem op_ninO {E : XK} (M : Meth X.K C "__contains__" f) (F : FnOk X.prog X.w X.K X.mg X.base CX k f fd ps sp) (hr : Room k X.A) (hb : Binds X.K fd ps []) (hx : Passes CX X E) : OpR X (compareOp .NotIn) (rInO true C sp E) := by
  intro pins s σ H y x v u Q I ry rx h
  obtain ⟨a, dx, fs, rfl, ea, q⟩ := h
  cases rx
  obtain ⟨mA, O, _, _, _, _⟩ := ins_get I.hok ea
  obtain ⟨od, J, _⟩ := O.look
  obtain ⟨m, Fm⟩ := I.fr
  refine PySem.W.notIn_K Fm I.ok.mod.kin J M.at_ M.fn (wpAny_mono (own_run (dvs := []) F hr I.env0 hb .nil (fun e s' c => hx pins σ H s e s' I c) I (us := [.ref a, v]) (vs := [.ref a, y]) (.cons rfl (.cons ry .nil)) q) (fun w s' hv => ?_) fun _ _ z => z)
  obtain ⟨z, H', I2, rz, c, rfl, q2⟩ := hv
  obtain rfl : w = .bool c := rz
  exact wpAny_pure ⟨.bl (true ^^ c), H', I2, by cases c <;> rfl, q2⟩

/-! o - y, y a text or an int; o + p of one class -/
/-- what the text must say of the class beside a built-in type -/
structure BinT (K : PySem.W.Frag) (C : Addr) (op : Operator) (T : String) : Prop where
  first : PySem.W.selfFirst K C = true
  r : ∃ rc, PySem.W.findIn K (.ref C) (PySem.dunderR op.info.2) = some rc ∧ (rc = none ∨ ∃ g : Addr, rc = some (.ref g))
  h1 : ∃ fo, PySem.W.findIn K (.type T) (PySem.dunder op.info.2) = some fo
  h2 : ∃ ro, PySem.W.findIn K (.type T) (PySem.dunderR op.info.2) = some ro
  sub : PySem.W.subIn K (.type T) (.ref C) = some false
/-- a value that is no NotImplemented -/
theorem cmp_back {Q : VK} {pins : List (Addr × Obj)} {σ : L2.St} {v : Value} {s' : Shared} (h : EP X pins σ Q v s') : PySem.W.CmpBack (EP X pins σ Q) v s' := by
  obtain ⟨x, H', I2, rx, q⟩ := h
  cases v with
  | notImplemented => cases x <;> (simp [L2.RelV] at rx; try (first | cases rx | skip))
  | _ => exact ⟨x, H', I2, rx, q⟩
def tOpO (C : Addr) (sp : Sp) (E : L2.St → XK) (ta tb : TE) : TE := fun σ H Q => ta σ H fun x H1 => tb σ H1 fun y H2 => ∃ a dx fs, x = .ref a ∧ H2 a = some (.ins C dx fs) ∧ sp [.ref a, y] H2 Q (E σ)
def TyB (T : String) : V → Prop
  | .str _ => T = "str"
  | .int _ => T = "int"
  | _ => False
def tTyB (T : String) (tb : TE) : TE := fun σ H Q => tb σ H fun y H1 => TyB T y ∧ Q y H1
theorem pe_opO {op : Operator} {T : String} {a b : Expr} {ta tb : TE} {pos : Pos} (B : BinT X.K C op T) (M : Meth X.K C (PySem.dunder op.info.2) f) (F : FnOk X.prog X.w X.K X.mg X.base CX k f fd ps sp) (hr : Room k X.A) (hb : Binds X.K fd ps [])
    (hx : ∀ σ, PassesAt CX X σ (E σ)) (ha : PE X a ta) (hb2 : PE X b tb) : PE X (.BinOp a op b pos) (tOpO C sp E ta (tTyB T tb)) := by
  refine ⟨fun pins s σ H Q I h => ?_⟩
  refine wpAny_BinOp (thn (ha.run pins s σ H _ I h) fun v s1 ⟨x, H1, I1, rx, q1⟩ => thn (hb2.run pins s1 σ H1 _ I1 q1) fun u s2 ⟨y, H2, I2, ry, ty, q2⟩ => ?_)
  obtain ⟨a, dx, fs, rfl, ea, q⟩ := q2
  cases rx
  obtain ⟨mA, O, _, _, _, _⟩ := ins_get I2.hok ea
  obtain ⟨od, J, _⟩ := O.look
  obtain ⟨m, Fm⟩ := I2.fr
  obtain ⟨rc, hr1, hr2⟩ := B.r
  obtain ⟨fo, h1⟩ := B.h1
  obtain ⟨ro, h2⟩ := B.h2
  have hT : typeOf u = pure (.type T) := by
    cases y with
    | str z => obtain ⟨t, rfl⟩ := ry; cases ty; rfl
    | int i => obtain ⟨t, rfl⟩ := ry; cases ty; rfl
    | _ => exact False.elim ty
  refine PySem.W.ksp_binT Fm I2.ok.mod.kin J hT B.first M.at_ M.fn hr1 hr2 h1 h2 B.sub (wpAny_mono (own_run (dvs := []) F hr I2.env0 hb .nil (fun e s' c => hx σ pins H2 s2 e s' I2 c) I2 (us := [.ref a, u]) (vs := [.ref a, y]) (.cons rfl (.cons ry .nil)) q) (fun w s' hv => cmp_back hv) fun _ _ z => z)
/-- o + p, both of the class -/
def tOpOO (C : Addr) (sp : Sp) (E : L2.St → XK) (ta tb : TE) : TE := fun σ H Q => ta σ H fun x H1 => tb σ H1 fun y H2 => ∃ a dx fs b dy gs, x = .ref a ∧ y = .ref b ∧ H2 a = some (.ins C dx fs) ∧ H2 b = some (.ins C dy gs) ∧ sp [.ref a, .ref b] H2 Q (E σ)
theorem pe_opOO {op : Operator} {a b : Expr} {ta tb : TE} {pos : Pos} (hc : PySem.W.selfFirst X.K C = true) (M : Meth X.K C (PySem.dunder op.info.2) f) (F : FnOk X.prog X.w X.K X.mg X.base CX k f fd ps sp) (hr : Room k X.A) (hb : Binds X.K fd ps [])
    (hx : ∀ σ, PassesAt CX X σ (E σ)) (ha : PE X a ta) (hb2 : PE X b tb) : PE X (.BinOp a op b pos) (tOpOO C sp E ta tb) := by
  refine ⟨fun pins s σ H Q I h => ?_⟩
  refine wpAny_BinOp (thn (ha.run pins s σ H _ I h) fun v s1 ⟨x, H1, I1, rx, q1⟩ => thn (hb2.run pins s1 σ H1 _ I1 q1) fun u s2 ⟨y, H2, I2, ry, q2⟩ => ?_)
  obtain ⟨a, dx, fs, b, dy, gs, rfl, rfl, ea, eb, q⟩ := q2
  cases rx
  cases ry
  obtain ⟨mA, O, _, _, _, _⟩ := ins_get I2.hok ea
  obtain ⟨od, J, _⟩ := O.look
  obtain ⟨mB, O2, _, _, _, _⟩ := ins_get I2.hok eb
  obtain ⟨od2, J2, _⟩ := O2.look
  obtain ⟨m, Fm⟩ := I2.fr
  refine PySem.W.binop_K Fm I2.ok.mod.kin J J2.type hc M.at_ M.fn (wpAny_mono (own_run (dvs := []) F hr I2.env0 hb .nil (fun e s' c => hx σ pins H2 s2 e s' I2 c) I2 (us := [.ref a, .ref b]) (vs := [.ref a, .ref b]) (.cons rfl (.cons rfl .nil)) q) (fun w s' hv => cmp_back hv) fun _ _ z => z)
/-- -o -/
def rNegO (C : Addr) (sp : Sp) (E : XK) : V → Hp → VK → Prop := fun x H Q => ∃ a dx fs, x = .ref a ∧ H a = some (.ins C dx fs) ∧ sp [.ref a] H Q E
theorem un_negO {E : XK} (M : Meth X.K C "__neg__" f) (F : FnOk X.prog X.w X.K X.mg X.base CX k f fd ps sp) (hr : Room k X.A) (hb : Binds X.K fd ps []) (hx : Passes CX X E) : UnR X (unaryOp .USub) (rNegO C sp E) := by
  intro pins s σ H x v Q I rx h
  obtain ⟨a, dx, fs, rfl, ea, q⟩ := h
  cases rx
  obtain ⟨mA, O, _, _, _, _⟩ := ins_get I.hok ea
  obtain ⟨od, J, _⟩ := O.look
  obtain ⟨m, Fm⟩ := I.fr
  exact PySem.W.ksp_neg Fm I.ok.mod.kin J M.at_ M.fn (own_run (dvs := []) F hr I.env0 hb .nil (fun e s' c => hx pins σ H s e s' I c) I (us := [.ref a]) (vs := [.ref a]) (.cons rfl .nil) q)

/-- o.m(e, ..), what is raised wished for at the caller's slots -/
def tMethO (C : Addr) (m : Str) (sp : Sp) (dvs : List V) (E : L2.St → XK) (ta : TE) (t : TA) : TE := fun σ H Q => ta σ H fun x H1 => ∃ a dx fs, x = .ref a ∧ H1 a = some (.ins C dx fs) ∧ fs.lookup m = none ∧ t σ H1 fun vs H2 => sp ((x :: vs) ++ dvs) H2 Q (E σ)
theorem pe_methO {pl : Sem Bool} {o e : Expr} {es : List Expr} {ta : TE} {t : TA} {m : Str} {pos apos : Pos} (he : PE X o ta) (c : Cls X.K C) (hm : Meth X.K C m f) (F : FnOk X.prog X.w X.K X.mg X.base CX k f fd ps sp) (hr : Room k X.A) (hb : Binds X.K fd ps ds) (hd : Vals dvs ds) (hx : ∀ σ, PassesAt CX X σ (E σ)) (ha : PA X (e :: es) t)
    (hst : starEach (e :: es) X.env = (false, eval e X.env) :: starEach es X.env := by rfl) (hpl : (backTo pos (starEach es X.env)).any (·.1) = false := by rfl)
    (ht : eval (.Call (.Attribute o m apos) (e :: es) [] pos) X.env = (do
      let ov ← eval o X.env
      standAt apos.atName
      let (f, first) ← holding [ov] (getMethod ov m pl)
      callWith pos f first (backTo pos (starEach (e :: es) X.env)) (backToKw pos (keywordEach [] X.env))) := by rfl) :
    PE X (.Call (.Attribute o m apos) (e :: es) [] pos) (tMethO C m sp dvs E ta t) := by
  refine ⟨fun pins s σ H Q I h => ?_⟩
  refine PySem.W.methodCall_KW (pl := pl) (thn (he.run pins s σ H _ I h) fun u s1 ⟨x, H1, I1, rx, a, dx, fs, ex, ea, l, q⟩ => ?_) ht
  subst ex
  obtain rfl : u = Value.ref a := rx
  refine getmeth_ok I1 ea c hm l ?_
  refine PySem.W.callWith_K (first := [.ref a]) (h₀ := X.base) I.ok.mod.kin hm.kp (thn (ha.run pos pins s1 σ H1 _ I1 q) fun us s2 ⟨vs, H2, I2, r, q2⟩ => ⟨I2.kIn, ?_⟩) hst hpl
  exact own_run (us := .ref a :: us) (vs := .ref a :: vs) F hr I2.env0 hb hd (fun e s' c => hx σ pins H2 s2 e s' I2 c) I2 (.cons rfl r) q2

/-- C(e, ..), what is raised wished for at the caller's slots -/
def tMakeO (C : Addr) (sp : Sp) (dvs : List V) (E : L2.St → XK) (t : TA) : TE := fun σ H Q => t σ H fun vs H1 => ∀ x dx, H1 x = none → H1 dx = none → dx ≠ x →
  sp ((.ref x :: vs) ++ dvs) (upd (upd H1 dx (.own x)) x (.ins C dx [])) (fun v H2 => v = .non ∧ Q (.ref x) H2) (E σ)
theorem run_makeO {pins : List (Addr × Obj)} {σ : L2.St} {H : Hp} {s : Shared} {Q : VK} {us : List Value} {vs : List V} (M : Mk X.K C f) (F : FnOk X.prog X.w X.K X.mg X.base CX k f fd ps sp) (hr : Room (k + 1) X.A) (hb : Binds X.K fd ps ds) (hd : Vals dvs ds)
    (hx : PassesAt CX X σ (E σ)) (I : Inv X pins σ H s) (r : Vals vs us)
    (h : ∀ x dx, H x = none → H dx = none → dx ≠ x → sp ((.ref x :: vs) ++ dvs) (upd (upd H dx (.own x)) x (.ins C dx [])) (fun v H2 => v = .non ∧ Q (.ref x) H2) (E σ)) :
    wpAny (model X.prog X.w) X.A (call (.ref C) us) (EP X pins σ Q) X.xe s := by
  have hq := h (s.heap.objs.size + 1) s.heap.objs.size (I.hok.fresh (Nat.le_succ _)) (I.hok.fresh (Nat.le_refl _)) (Nat.ne_of_lt (Nat.lt_succ_self _))
  have I2 := Inv.made (C := C) I
  have hl : ((Value.ref (s.heap.objs.size + 1) :: us) ++ ds).length = ps.length := by
    have e := F.len _ _ _ _ hq
    rw [← e, List.length_append, List.length_append, List.length_cons, List.length_cons, r.length, hd.length]
  refine wpAny_call (make_map (f := f) I.kIn M.makes M.init (beq_iff_eq.mp M.fn) (codeAny_mono (F.run _ X.stack _ _ ⟨Value.ref (s.heap.objs.size + 1) :: us, []⟩ ((Value.ref (s.heap.objs.size + 1) :: us) ++ ds) _ _ (E σ) (hr.make C us [])
    (I2.env0.make C us []) (hb _ (Value.ref (s.heap.objs.size + 1) :: us) I2.kIn hl) ((show Vals (V.ref (s.heap.objs.size + 1) :: vs) (Value.ref (s.heap.objs.size + 1) :: us) from .cons rfl r).append hd) hq) fun r s' hq' => ?_))
  cases r with
  | error e => exact hx pins _ _ e s' I2 hq'
  | ok fl =>
    cases fl with
    | ret u =>
      obtain ⟨v, H', I3, rv, ev, q3⟩ := I2.after hq'
      subst ev
      exact ⟨rv, ⟨V.ref (s.heap.objs.size + 1), H', I3, rfl, q3⟩⟩
    | _ => exact False.elim hq'
theorem pe_makeO {x : Str} {e : Expr} {es : List Expr} {t : TA} {p pos : Pos} (M : Mk X.K C f) (F : FnOk X.prog X.w X.K X.mg X.base CX k f fd ps sp) (hr : Room (k + 1) X.A) (hg : Gl X x) (hm : X.mg x = some (.ref C)) (hb : Binds X.K fd ps ds) (hd : Vals dvs ds) (hx : ∀ σ, PassesAt CX X σ (E σ))
    (ha : PA X (e :: es) t) (hdb : (x == ("__debug__" : Str)) = false := by decide) (he : starEach (e :: es) X.env = (false, eval e X.env) :: starEach es X.env := by rfl) (hpl : (backTo pos (starEach es X.env)).any (·.1) = false := by rfl) :
    PE X (.Call (.Name x p) (e :: es) [] pos) (tMakeO C sp dvs E t) := by
  refine ⟨fun pins s σ H Q I h => ?_⟩
  refine wpAny_Call_Name_kw (ld_glob I hg hm ?_ hdb)
  refine PySem.W.callWith_K (h₀ := X.base) I.ok.mod.kin M.kp (thn (ha.run pos pins s σ H _ I h) fun us s1 ⟨vs, H1, I1, r, q⟩ => ⟨I1.kIn, ?_⟩) he hpl
  exact run_makeO M F hr hb hd (hx σ) I1 r q
end

/-! a class held by a local name, made -/
def tMakeL (i : Nat) (C : Addr) (sp : Sp) (dvs : List V) (E : L2.St → XK) (t : TA) : TE := fun σ H Q => σ[i]? = some (some (.ref C)) ∧ tMakeO C sp dvs E t σ H Q
theorem pe_makeL {X : Cx} {CX : CXT} {k i : Nat} {f C : Addr} {fd : FuncData} {ps : List Str} {sp : Sp} {E : L2.St → XK} {dvs : List V} {ds : List Value} {x : Str} {e : Expr} {es : List Expr} {t : TA} {p pos : Pos} (M : Mk X.K C f) (F : FnOk X.prog X.w X.K X.mg X.base CX k f fd ps sp) (hr : Room (k + 1) X.A)
    (hN : X.N[i]? = some x) (hv : Vis X.env.scope x) (hb : Binds X.K fd ps ds) (hd : Vals dvs ds) (hx : ∀ σ, PassesAt CX X σ (E σ))
    (ha : PA X (e :: es) t) (hdb : (x == ("__debug__" : Str)) = false := by decide) (hcd : (x == ("__classdict__" : Str)) = false := by decide) (he : starEach (e :: es) X.env = (false, eval e X.env) :: starEach es X.env := by rfl) (hpl : (backTo pos (starEach es X.env)).any (·.1) = false := by rfl) :
    PE X (.Call (.Name x p) (e :: es) [] pos) (tMakeL i C sp dvs E t) := by
  refine ⟨fun pins s σ H Q I h => ?_⟩
  obtain ⟨hs, ht⟩ := h
  refine wpAny_Call_Name_kw (thn ((pe_var (pos := p) hN hv hdb hcd).run pins s σ H (fun v H1 => v = .ref C ∧ H1 = H) I ⟨.ref C, hs, rfl, rfl⟩) fun u s1 ⟨v, H1, I1, r1, q1⟩ => ?_)
  obtain ⟨rfl, rfl⟩ := q1
  cases r1
  refine PySem.W.callWith_K (h₀ := X.base) I.ok.mod.kin M.kp (thn (ha.run pos pins s1 σ _ _ I1 ht) fun us s2 ⟨vs, H2, I2, r, q⟩ => ⟨I2.kIn, ?_⟩) he hpl
  exact run_makeO M F hr hb hd (hx σ) I2 r q

/-! iteration over an object whose __iter__ gives an iterator over a tuple -/
def tiObj (t : Addr) (i : Nat) : Obj := { cls := .type "tuple_iterator", data := .fields #[.ref t, .int (i : Int) 0] }
def TiO (t it : Addr) (i : Nat) : HO := .ext fun h => h.get? it = some (tiObj t i)
theorem tiO_ok {P : Program} {w : World} {H : Hp} {h : Heap} {t it : Addr} {i : Nat} (e : h.get? it = some (tiObj t i)) : ObjOk P w H h it (TiO t it i) := ⟨e, ⟨_, e⟩, fun h1 h2 q k => k _ q⟩
/-- iter(t), t a tuple -/
def rIterT (K : PySem.W.Frag) (n : Nat) : List V → Hp → VK → Prop := fun xs H Q => ∃ (t : Addr) (zs : List V), xs = [.ref t] ∧ SqT K H t zs ∧ ∀ it, H it = none → n ≤ it → Q (.ref it) (upd H it (TiO t it 0))
theorem call_iterT {X : Cx} : CallR X (.builtin "iter") (rIterT X.K X.s_0.heap.objs.size) := by
  intro pins s σ H xs us Q I r h
  obtain ⟨l, zs, rfl, hq, q⟩ := h
  obtain rfl := Vals.ref1 r
  obtain ⟨its, rv, pl, hz⟩ := I.tuple hq
  refine Calls.call_function_entry (by decide +kernel) (by decide +kernel) PySem.W.kdk_entry_iter (PySem.W.kdk_args_iter _) ?_
  unfold Builtin.«iter»
  refine wpAny_bind (m := someArgs "iter" 1 2 _) (wpAny_of_eq (a := [Value.ref l]) (by first | rfl | kernel_rfl!) ?_)
  show wpAny _ _ (pyIter (.ref l) >>= _) _ _ _
  refine wpAny_bind (wpAny_pyIter_tuple (show s.heap.IsTuple l its.toArray from pl) (wpAny_pure ⟨_, rfl, ?_⟩))
  exact ⟨.ref s.heap.objs.size, _, I.laid (t' := s.toks) (fun b u e => Heap.get?_push_of_some _ e) (Nat.le_refl _) (tiO_ok (Heap.get?_push_size _ rfl)), rfl, q _ (I.hok.fresh (Nat.le_refl _)) I.sz⟩

/-- a def's promise that may name the heap's size at its entry -/
structure FnSz (P : Program) (w : World) (K : PySem.W.Frag) (mg : Str → Option Value) (base : Heap) (CX : CXT) (k : Nat) (f : Addr) (fd : FuncData) (ps : List Str) (sp : Nat → Sp) : Prop where
  len : ∀ n vs H Q E, sp n vs H Q E → vs.length = ps.length
  run : ∀ (A : Around) (outer : List Env) (s : Shared) (H : Hp) (args : Args) (us : List Value) (vs : List V) (Q : VK) (E : XK), Room k A → Env0 P w K mg base A outer s H → BindsTo s fd args (ps.zip us) → Vals vs us → sp s.heap.objs.size vs H Q E →
    codeAny (model P w) A (.call (.ref f) args) (CR CX outer P w H s Q E) s
theorem fn_sz {CX : CXT} {P : Program} {w : World} {K : PySem.W.Frag} {mg : Str → Option Value} {base : Heap} {k : Nat} {f : Addr} {name qual : Str} {params : Arguments} {body : List Stmt} {scope : Scope} {dV kV doc pm cdv ct oc : Value} {an od : Option Addr}
    {osl : Array (Option Value)} {N ps : List Str} {sp : Nat → Sp} (lk : K.lookup f = some ⟨oc, od, .func (PySem.W.fnOf name qual params body scope dV kV doc pm an cdv ct), osl⟩) (hcd : PySem.W.codeIn K cdv qual = true) (S : FnScope N ps scope)
    (len : ∀ n vs H Q E, sp n vs H Q E → vs.length = ps.length)
    (hbody : ∀ (A : Around) (outer : List Env) (s : Shared) (H : Hp) (vs : List V) (Q : VK) (E : XK), Room k (A.deeper (envOfC qual scope s.heap.objs.size f cdv)) → sp s.heap.objs.size vs H Q E →
      ∃ t, PSs (cxOf CX P w K mg base N qual scope f cdv A outer s H E) body t ∧ t { nx := fun _ H' => Q .non H', rt := Q } (L2.start N vs) H) :
    FnSz P w K mg base CX (k + 1) f (PySem.W.fnOf name qual params body scope dV kV doc pm an cdv ct) ps sp := by
  refine ⟨len, fun A outer s H args us vs Q E hr e0 hb r hsp => ?_⟩
  have KX : K.In s.heap := e0.mod.kin.keeps fun b o e => (e0.bs b o e).1
  have lim : s.heap.NoLimit := e0.mod.nolimit.keeps fun b o e => (e0.bs b o e).1
  have hl := len _ _ _ _ _ hsp
  have places : ∀ y ∈ ps.zip us, scope.names.lookup y.1 = some .local ∨ (scope.names.lookup y.1 = some .cell ∧ ((cellsFrom (s.heap.objs.size + 1) scope.names []).lookup y.1).isSome = true) := fun y hy =>
    (S.par y.1 (List.of_mem_zip (a := y.1) (b := y.2) hy).1).imp id fun q => ⟨q, PySem.W.cellsFrom_some _ _ _ (.inl q)⟩
  refine codeAny_call_function hr.depth (KX _ _ lk) rfl S.co S.gen rfl (PySem.W.codeRec_of KX hcd) (hb _ _ _ _ (wpAny_newFunctionEnv_cells S.kind places fun env he s1 x => ?_))
  subst he
  obtain ⟨t, ht, hq⟩ := hbody A outer s H vs Q E (hr.deeper _) hsp
  refine ⟨lim.keeps x.toInCall.keep, codeAny_func (wpAny_mono (ht.run [] s1 (L2.start N vs) H _ (inv_start S hr.hd e0 hl r x) hq) (fun fl s' hs => ?_) fun e s' hs => hs)⟩
  cases fl with
  | ret u =>
    obtain ⟨v, σ', H', J, rv, q⟩ := hs
    exact ⟨v, H', J.os, J.bare, J.base, J.hok, rv, q⟩
  | next =>
    obtain ⟨σ', H', J, q⟩ := hs
    exact ⟨.non, H', J.os, J.bare, J.base, J.hok, rfl, q⟩
  | brk => obtain ⟨_, _, _, q⟩ := hs; exact False.elim q
  | cont => obtain ⟨_, _, _, q⟩ := hs; exact False.elim q
/-- what __iter__ promises: an iterator over the tuple that tp finds at the object -/
def spIt (K : PySem.W.Frag) (tp : Addr → Hp → Addr → Prop) (n : Nat) : Sp := fun vs H Q _ => ∃ a t zs, vs = [.ref a] ∧ tp a H t ∧ SqT K H t zs ∧ ∀ it, H it = none → n ≤ it → Q (.ref it) (upd H it (TiO t it 0))
def iOwn (K : PySem.W.Frag) (C : Addr) (tp : Addr → Hp → Addr → Prop) (te : TE) : TI := fun σ H R => te σ H fun x H1 => ∃ a dx fs t zs, x = .ref a ∧ H1 a = some (.ins C dx fs) ∧ tp a H1 t ∧ SqT K H1 t zs ∧ R (Itt K t) H1
theorem pi_own {X : Cx} {K : PySem.W.Frag} {k : Nat} {C f : Addr} {fd : FuncData} {ps : List Str} {tp : Addr → Hp → Addr → Prop} {e tg : Expr} {te : TE} (hK : X.K = K) (M : Meth X.K C "__iter__" f) (F : FnSz X.prog X.w X.K X.mg X.base CX0 k f fd ps (spIt K tp)) (hr : Room k X.A) (hb : Binds X.K fd ps [])
    (he : PE X e te) : PI X tg e (iOwn K C tp te) := by
  subst hK
  refine ⟨fun pins s σ H R I h => ?_⟩
  refine thn (he.run pins s σ H _ I h) fun u s1 ⟨x, H1, I1, rx, a, dx, fs, t, zs, ex, ea, ht, hq, q⟩ => ?_
  subst ex
  cases rx
  obtain ⟨mA, O, _, _, _, _⟩ := ins_get I1.hok ea
  obtain ⟨od, J, _⟩ := O.look
  obtain ⟨m, Fm⟩ := I1.fr
  refine PySem.W.owit_iter Fm I1.ok.mod.kin J M.at_ M.fn ?_
  have hsp : spIt X.K tp s1.heap.objs.size [.ref a] H1 (fun v H' => ∃ it, v = .ref it ∧ H1 it = none ∧ s1.heap.objs.size ≤ it ∧ H' = upd H1 it (TiO t it 0)) (fun _ _ _ => False) := ⟨a, t, zs, rfl, ht, hq, fun it hn hs => ⟨it, rfl, hn, hs, rfl⟩⟩
  have hl : ([Value.ref a] ++ ([] : List Value)).length = ps.length := F.len _ _ _ _ _ hsp
  refine wpAny_call (codeAny_mono (F.run X.A X.stack s1 H1 ⟨[.ref a], []⟩ [.ref a] [.ref a] _ _ hr I1.env0 (hb s1 [.ref a] I1.kIn hl) (.cons rfl .nil) hsp) fun r s' hq' => ?_)
  cases r with
  | error e => exact absurd hq' (by intro z; exact z)
  | ok fl =>
    cases fl with
    | ret u =>
      obtain ⟨v, H', I2, rv, it, rfl, hn, hs, rfl⟩ := I1.after hq'
      cases rv
      have ei : s'.heap.get? it = some (tiObj t 0) := (I2.hok it _ upd_same).1
      have st : s'.heap.IsTupleIter it t 0 := ⟨_, ei, rfl, rfl⟩
      have I3 : Inv X pins σ H1 s' := by
        have := ItX.inv_drop I2 (a := it) upd_same
        rwa [ItX.dropH_upd hn] at this
      refine wpAny_specialOf (name := Str.ofString "__next__") st.typeIs PySem.F.slot_tuple_iterator_next.lookup ?_
      refine ⟨it, [it], _, _, H1, rfl, I3, turn_tuple t it, st, fun b hb => ?_, q⟩
      have eb : b = it := by simpa using hb
      subst eb
      have fp := ItX.inv_fp I2 (u := TiO t b 0) upd_same (Nat.le_trans I1.sz hs)
      rwa [ItX.dropH_upd hn] at fp
    | _ => exact False.elim hq'
end Sl
namespace Sl
open PySem PySem.Spec PyProof.Rows L2
/-! try: .. except X as n: .. except Y as m: .. -/
abbrev TsS := Addr → Value → Option Addr → TS
/-- behind a suite its name is gone -/
def endsAs (i : Nat) (D : Ends) : Ends := { nx := fun σ' H' => D.nx (σ'.set i none) H', rt := D.rt, bk := fun σ' H' => D.bk (σ'.set i none) H', ct := fun σ' H' => D.ct (σ'.set i none) H' }
def wAsM (K : PySem.W.Frag) (Wout : WX) (D : Ends) : List (Value × Nat × TsS) → WX
  | [] => Wout
  | (c, i, ts) :: r => fun cls d σ H => ∃ b, PySem.W.exmOne K cls c = some b ∧ (b = true → ∀ a, H a = none → ts a cls d (endsAs i D) (σ.set i (some (.ref a))) H) ∧ (b = false → wAsM K Wout D r cls d σ H)
inductive HdsAs (X : Cx) : List ExceptHandler → List (Value × Nat × TsS) → Prop
  | nil : HdsAs X [] []
  | cons {x n : Str} {c : Value} {i : Nat} {ts : TsS} {b₀ : Stmt} {suite : List Stmt} {np pos' : Pos} {hds : List ExceptHandler} {l : List (Value × Nat × TsS)} (hi : X.N[i]? = some n) (hln : X.env.kindOf n = some .local) (hc : Names X x c)
      (hsu : ∀ (a : Addr) (oe : Obj) (cls : Value) (d : Option Addr) (pn : List (Addr × Obj)), Zc cls d oe → (∃ vs, oe.data = .fields vs) → PSs (X.suite a ((a, oe) :: pn)) (b₀ :: suite) (ts a cls d)) (r : HdsAs X hds l) :
      HdsAs X (.ExceptHandler (some (.Name x np)) (some n) (b₀ :: suite) pos' :: hds) ((c, i, ts) :: l)
section
variable {X : Cx} {body : List Stmt} {h₀ : ExceptHandler} {hds : List ExceptHandler} {l : List (Value × Nat × TsS)} {pos : Pos} {tb : WX → TS} {Wout : WX}
theorem ps_try_asM (hs : X.stack = X.env :: X.outer) (hf : X.env.frame = some X.env.locals) (hN : X.N.Nodup) (tk : Takes X Wout)
    (hb : ∀ (W : WX) (pn : List (Addr × Obj)) (xe : Value → Shared → Prop), Takes (X.tr pn xe) W → PassesOwn (model X.prog X.w) X.A X.env xe → PSs (X.tr pn xe) body (tb W))
    (hh : HdsAs X (h₀ :: hds) l) : PS X (.Try body (h₀ :: hds) [] [] pos) (fun D σ H => tb (wAsM X.K Wout D l) D σ H) := by
  refine ⟨fun pins s σ H D I h => wpAny_Try_except ?_⟩
  have ok := I.ok
  have hfr : X.A.frames = some (X.env :: X.outer) := ok.frames.trans (congrArg some hs)
  refine wpAny_mono ((hb (wAsM X.K Wout D l) (X.pn ++ pins) (fun e s₁ => wpAny (model X.prog X.w) X.A (noteFrame e X.env) (fun _ s₂ => wpAny (model X.prog X.w) X.A (setFlight e none) (fun _ s₃ =>
    wpAny (model X.prog X.w) X.A (handleBy e X.env (h₀ :: hds)) (SP X pins D) X.xe s₃) X.xe s₂) X.xe s₁) (fun u s' xx => ?_) PassesOwn.looking).run [] s σ H D (I.toTry _) h) (fun f s1 hsp => ?_) (fun e s1 he => he)
  case refine_2 =>
    cases f with
    | next => obtain ⟨σ', H', J', q⟩ := hsp; exact wpAny_execs_nil ⟨σ', H', J'.ofTry ok, q⟩
    | brk => obtain ⟨σ', H', J', q⟩ := hsp; exact ⟨σ', H', J'.ofTry ok, q⟩
    | cont => obtain ⟨σ', H', J', q⟩ := hsp; exact ⟨σ', H', J'.ofTry ok, q⟩
    | ret u => obtain ⟨v, σ', H', J', r, q⟩ := hsp; exact ⟨v, σ', H', J'.ofTry ok, r, q⟩
  obtain ⟨a, B, sI, pins', σ', H', cls, d, rfl, J', nb, up, sky, na, os, ag, w⟩ := xx
  have J : Inv X pins σ' H' sI := J'.ofTry ok
  refine Sky.land Zc.steady hfr hf (by rw [← hs]; exact sky) fun h3 fl3 up3 => ?_
  have J3 : Inv X pins σ' H' { s' with heap := h3 } := J.landed nb fl3.1 (up.trans up3) os ag
  obtain ⟨oe3, vs3, he3, hz3, hd3⟩ := fl3.there
  have nfr : a ∉ frs (X.env :: X.outer) := fun hm => by
    obtain ⟨_, o', e', hnf⟩ := fl3.2.2.1.mem hm
    rw [he3] at e'; cases e'
    exact hnf _ hd3
  have nL : a ≠ X.env.locals := fun z => nfr (List.mem_filterMap.mpr ⟨X.env, List.mem_cons_self, by rw [hf, z]⟩)
  have nF : a ∉ X.fs := fun hm => by
    obtain ⟨e, he, q⟩ := List.mem_filterMap.mp hm
    exact nfr (List.mem_filterMap.mpr ⟨e, List.mem_cons_of_mem _ he, q⟩)
  have S3 := J3.suite he3 hd3 na nL nF
  have LT : PySem.W.Looks (model X.prog X.w) h3 (typeOf (.ref a)) cls := fun A Q E s k q => wpAny_typeOf_ref (k _ _ he3) (by rw [hz3.1]; exact q)
  suffices go : ∀ {hds' : List ExceptHandler} {l' : List (Value × Nat × TsS)}, HdsAs X hds' l' → wAsM X.K Wout D l' cls d σ' H' →
      wpAny (model X.prog X.w) X.A (handleBy (.ref a) X.env hds') (SP X pins D) X.xe { s' with heap := h3 } from go hh w
  intro hds' l' hk
  induction hk with
  | nil =>
    intro w
    refine wpAny_handleBy_nil ?_
    obtain ⟨_, _, _, oe, vs, T, oT, ts', he, hz, hd, h1, hr⟩ := id fl3
    unfold PySem.passOn
    refine wpAny_bind (wpAny_field he hd h1 ?_)
    rw [if_neg (by simp : ¬ ((Value.ref T == Value.none) = true))]
    have fin : wpAny (model X.prog X.w) X.A (setFlight (.ref a) X.env.frame) (fun _ s4 => wpAny (model X.prog X.w) X.A (throw (.ref a) : Sem Flow) (SP X pins D) X.xe s4) X.xe { s' with heap := h3 } := by
      rw [hf]
      exact HandSPX.setFlight_upZ fl3 fun h4 hh4 up4 => wpAny_throw (tk _ _ ⟨a, B, sI, pins, σ', H', cls, d, rfl, J, nb, (up.trans up3).trans up4, .inr (.inr (by rw [hs]; exact hh4)), na, os, ag, w⟩)
    first
      | exact wpAny_bind (wpAny_pure (wpAny_bind fin))
      | exact wpAny_bind fin
  | @cons x n c i ts b₀ suite np pos' hds2 l2 hi hln hc hsu r ih =>
    intro w
    obtain ⟨b, hb1, hyes, hno⟩ := w
    refine wpAny_handleBy_cons (codeAny_handlers_test ?_) (by intro q; cases q)
    have LM := PySem.W.exm_one (M := model X.prog X.w) (J3.kIn) LT hb1
    have test : ∀ {Q : Value → Shared → Prop} {E : Value → Shared → Prop}, Q c { s' with heap := h3 } → wpAny (model X.prog X.w) (X.A.mark (some (.ref a))) (eval (.Name x np) X.env) Q E { s' with heap := h3 } := fun {Q E} q => by
      obtain ⟨hg, hdbg, hm | ⟨hm, hv, hnn⟩⟩ := hc
      · exact ld_glob (X := X.suite a ((a, oe3) :: (X.pn ++ pins))) S3 hg hm q hdbg
      · exact ld_blt (X := X.suite a ((a, oe3) :: (X.pn ++ pins))) S3 hg hm hv q hnn hdbg
    refine test (LM.here ?_)
    cases b with
    | false => exact ih (hno rfl)
    | true =>
      refine codeAny_handlers_suite_as (HandSPX.lands_againZ fl3 fun h4 fl4 up4 => ?_)
      have J4 : Inv X pins σ' H' { s' with heap := h4 } := J.landed nb fl4.1 ((up.trans up3).trans up4) os ag
      obtain ⟨oe4, vs4, he4, hz4, hd4⟩ := fl4.there
      refine store_ok (X := X.suite a ((a, oe4) :: (X.pn ++ pins))) (v := .ref a) (J4.suite he4 hd4 na nL nF) hN hi (.inl hln) rfl (fun s5 S5 => ?_) (.inr hln)
      refine wpAny_mono ((hsu a oe4 cls d (X.pn ++ pins) hz4 ⟨_, hd4⟩).run [] s5 _ H' _ S5 (hyes rfl a na)) (fun f s6 hsp => ?_) (fun _ _ z => False.elim z)
      have end_ : ∀ {σ6 : L2.St} {H6 : Hp} {Q : Shared → Prop}, Inv (X.suite a ((a, oe4) :: (X.pn ++ pins))) [] σ6 H6 s6 → (∀ s7, Inv X pins (σ6.set i none) H6 s7 → Q s7) →
          wpAny (model X.prog X.w) X.A (do bindName X.env n .none; unbindBehindTheSuite X.env n pos') (fun _ s7 => Q s7) X.xe s6 := fun {σ6 H6 Q} S6 hq => gone_ok (S6.unsuite ok) hN hi hln hq
      cases f with
      | next => obtain ⟨σ6, H6, S6, q6⟩ := hsp; exact end_ S6 fun s7 J7 => ⟨_, _, J7, q6⟩
      | brk => obtain ⟨σ6, H6, S6, q6⟩ := hsp; exact end_ S6 fun s7 J7 => ⟨_, _, J7, q6⟩
      | cont => obtain ⟨σ6, H6, S6, q6⟩ := hsp; exact end_ S6 fun s7 J7 => ⟨_, _, J7, q6⟩
      | ret u => obtain ⟨v6, σ6, H6, S6, r6, q6⟩ := hsp; exact end_ S6 fun s7 J7 => ⟨_, _, _, J7, r6, q6⟩
end
end Sl
namespace Sl
open PySem PySem.Spec PyProof.Rows L2

/-! list(o), o an object whose __iter__ gives an iterator over a tuple and whose __len__ gives a number -/
section
variable {X : Cx} {pins : List (Addr × Obj)} {σ : L2.St} {H : Hp} {s : Shared}
theorem tup_loop {A1 : Around} {t it q : Addr} {zs : List V} {Rs : Result → Shared → Prop} (hh : A1.in1.handled = none) (ht : SqT X.K H t zs) (hq : H q = some (.lst [])) (hz : zs.length ≤ 1000000) (hf : FpOk X pins H it) (hne : it ≠ q)
    (hdone : ∀ s, Inv X pins σ (upd H q (.lst zs)) s → Rs (.ok (.ret .none)) s) :
    ∀ (m i : Nat) (s : Shared), zs.length = i + m → Inv X pins σ (upd H q (.lst (zs.take i))) s → s.heap.IsTupleIter it t i → codeAny (model X.prog X.w) A1 (.builtin "list.extend.loop" ⟨[.ref q, .ref it, .none], []⟩) Rs s := by
  have fp : ∀ ys, FpOk X pins (upd H q (.lst ys)) it := fun ys => ⟨by rw [upd_ne hne]; exact hf.1, hf.2⟩
  have sq : ∀ ys, SqT X.K (upd H q (.lst ys)) t zs := fun ys => (Kp.own (A := [q]) hq rfl (by simp)).sqT ht
  intro m
  induction m with
  | zero =>
    intro i s hl I st
    refine codeAny_builtin PySem.F.entry_extend_loop ?_
    rw [Around.under_plainId PySem.F.plain_extend_loop _]
    show wpAny _ A1.in1 (pyNext (.ref it) >>= _) _ _ s
    obtain ⟨its, rv, p, hzz⟩ := I.tuple (sq _)
    obtain ⟨f0, f1, f2, f3, f4, f5⟩ := fp (zs.take i)
    have hlr := rv.length
    refine wpAny_bind (wpAny_pyNext_tuple_end hh st (show s.heap.IsTuple t its.toArray from p) (by simp; omega) fun h' eb => ?_)
    have I1 : Inv X pins σ (upd H q (.lst (zs.take i))) { s with heap := h' } := I.turned (t' := s.toks) (fun b o hb e => eb b o hb e) f0 f1 f3 f4 f5
    rw [List.take_of_length_le (by omega)] at I1
    exact wpAny_pure (hdone _ I1)
  | succ m ih =>
    intro i s hl I st
    refine codeAny_builtin PySem.F.entry_extend_loop ?_
    rw [Around.under_plainId PySem.F.plain_extend_loop _]
    show wpAny _ A1.in1 (pyNext (.ref it) >>= _) _ _ s
    obtain ⟨its, rv, p, hzz⟩ := I.tuple (sq _)
    have hx : zs[i]? = some (zs[i]'(by omega)) := List.getElem?_eq_getElem (by omega)
    obtain ⟨u, hu, ru⟩ := rv.get hx
    obtain ⟨f0, f1, f2, f3, f4, f5⟩ := fp (zs.take i)
    refine wpAny_bind (wpAny_pyNext_tuple_item st (show s.heap.IsTuple t its.toArray from p) (x := u) (by simpa using hu) fun h' st' sb => ?_)
    have I1 : Inv X pins σ (upd H q (.lst (zs.take i))) { s with heap := h' } := I.turned (t' := s.toks) (fun b o hb e => (sb.2 b hb).trans e) f0 f1 f3 f4 f5
    show wpAny _ A1.in1 (updateSeq q (·.push u) >>= _) _ _ _
    obtain ⟨z, its2, k, r2, hl2, e⟩ := I1.lstM upd_same
    have hll : its2.length = i := by have := r2.length; rw [List.length_take] at this; omega
    have hs : i < sizeLine := by rw [sizeLine_eq]; omega
    refine wpAny_bind (wpAny_updateSeq e rfl (wpAny_pure ⟨plainId_quiet PySem.F.plain_extend_loop _, ?_⟩) (by rw [List.size_toArray]; omega) (by show (its2.toArray.push u).size ≤ sizeLine + 1; rw [Array.size_push, List.size_toArray]; omega))
    have I2 := I1.lset (f := (·.push u)) (its' := its2 ++ [u]) (t' := s.toks) upd_same e (by simp) (r2.append (.cons ru .nil)) (by rw [List.length_append, List.length_singleton]; omega)
    rw [upd_upd, show zs.take i ++ [zs[i]'(by omega)] = zs.take (i + 1) by rw [List.take_add_one, hx]; rfl] at I2
    refine ih (i + 1) _ (by omega) I2 ?_
    exact st'.at fun o e => (Heap.get?_update_other _ _ (Ne.symm hne)).trans e

theorem hint_own {A' : Around} {E : Value → Shared → Prop} {Q : Bool → Shared → Prop} {k : Nat} {C f a dx : Addr} {fs : List (Str × V)} {fd : FuncData} {ps : List Str} {sp : Sp} (M : Meth X.K C "__len__" f) (F : FnOk X.prog X.w X.K X.mg X.base CX0 k f fd ps sp) (hb : Binds X.K fd ps [])
    (hr : Room k A'.in1) (e0 : Env0 X.prog X.w X.K X.mg X.base A'.in1 X.stack s H) (I : Inv X pins σ H s) (ea : H a = some (.ins C dx fs)) (hsp : sp [.ref a] H (fun v H' => (∃ n : Nat, v = .int (n : Int) ∧ n ≤ 1000000) ∧ H' = H) (fun _ _ _ => False))
    (h : ∀ b s', Inv X pins σ H s' → Q b s') : wpAny (model X.prog X.w) A' (Builtin.List.listLengthHint (.ref a)) Q E s := by
  obtain ⟨mA, O, _, _, _, _⟩ := ins_get I.hok ea
  obtain ⟨od, J, _⟩ := O.look
  obtain ⟨m, Fm⟩ := I.fr
  unfold Builtin.List.listLengthHint
  refine wpAny_bind (wpAny_bind (J.type.here ((PySem.W.looks_findIn I.kIn M.at_).here ?_)))
  refine PySem.W.KFB.if_not rfl ?_
  show wpAny _ _ (rule "list.length-hint.len" >>= _) _ _ _
  refine wpAny_bind (wpAny_rule (wpAny_bind (wpAny_attempt ?_)))
  refine PySem.W.len_K Fm I.ok.mod.kin J M.at_ M.fn (wpAny_mono (own_run (dvs := []) F hr e0 hb .nil (fun e s' c => absurd c (by intro z; exact z)) I (us := [.ref a]) (vs := [.ref a]) (.cons rfl .nil) hsp) (fun v s' hv => ?_) fun _ _ z => z)
  obtain ⟨x, H', I2, rx, ⟨n, rfl, hn⟩, rfl⟩ := hv
  obtain ⟨t, rfl⟩ := rx
  refine ⟨⟨by omega, by omega⟩, ?_⟩
  refine wpAny_bind ?_
  show wpAny _ _ (asInt? (Value.int (n : Int) s'.toks) >>= _) _ _ _
  refine wpAny_bind (wpAny_of_eq (a := some (n : Int)) (by rfl) (wpAny_pure ?_))
  show wpAny _ _ (if Builtin.List.listTooLong (n : Int).toNat = true then _ else _) _ _ _
  rw [if_neg (by unfold Builtin.List.listTooLong; simp only [Int.toNat_natCast, decide_eq_true_eq]; rw [sizeLine_eq]; omega)]
  exact wpAny_pure (h _ _ (I2.tok _))

def rListO (K : PySem.W.Frag) (C : Addr) (tp : Addr → Hp → Addr → Prop) (spL : Sp) : List V → Hp → VK → Prop := fun xs H Q => ∃ a dx fs t zs, xs = [.ref a] ∧ H a = some (.ins C dx fs) ∧ zs.length ≤ 1000000 ∧
  ∀ q, H q = none → tp a (upd H q (.lst [])) t ∧ SqT K (upd H q (.lst [])) t zs ∧ (∀ it H', H' = upd (upd H q (.lst [])) it (TiO t it 0) → upd H q (.lst []) it = none → spL [.ref a] H' (fun v H2 => (∃ n : Nat, v = .int (n : Int) ∧ n ≤ 1000000) ∧ H2 = H') (fun _ _ _ => False)) ∧ Q (.ref q) (upd H q (.lst zs))
theorem call_listO {kI kL : Nat} {C fI fL : Addr} {fdI fdL : FuncData} {psI psL : List Str} {tp : Addr → Hp → Addr → Prop} {spL : Sp} (MI : Meth X.K C "__iter__" fI) (FI : FnSz X.prog X.w X.K X.mg X.base CX0 kI fI fdI psI (spIt X.K tp)) (bI : Binds X.K fdI psI [])
    (ML : Meth X.K C "__len__" fL) (FL : FnOk X.prog X.w X.K X.mg X.base CX0 kL fL fdL psL spL) (bL : Binds X.K fdL psL []) (hrI : Room (kI + 2) X.A) (hrL : Room (kL + 3) X.A) (hc : X.calm = true) : CallR X (.type "list") (rListO X.K C tp spL) := by
  intro pins s σ H xs us Q I rv h
  obtain ⟨a, dx, fs, t, zs, rfl, ha, hz, hq⟩ := h
  obtain ⟨u, rfl, ru⟩ := rv.one
  cases ru
  refine callType_codes (Q₁ := fun obj s₁ => obj = .ref s.heap.objs.size ∧ s₁ = { s with heap := s.heap.push { cls := .type "list", data := .seq #[] } }) PySem.F.called_list (PySem.F.typeCall_list_1 _) PySem.F.entry_list_init
    (code_list_new _ ⟨rfl, rfl⟩) fun obj s₁ h₁ => ?_
  obtain ⟨rfl, rfl⟩ := h₁
  have hS : (s.heap.push { cls := .type "list", data := .seq #[] }).get? s.heap.objs.size = some { cls := .type "list", data := .seq #[] } := Heap.get?_push_size _ rfl
  refine ⟨⟨_, hS, rfl⟩, PySem.F.args_list_init_2 _ _, ?_⟩
  have fr : H s.heap.objs.size = none := I.hok.fresh (Nat.le_refl _)
  obtain ⟨htp, hsq, hlen, hQ⟩ := hq _ fr
  have I1 : Inv X pins σ (upd H s.heap.objs.size (.lst [])) { s with heap := s.heap.push { cls := .type "list", data := .seq #[] } } := I.lnew (its := []) (t' := s.toks) .nil (Nat.zero_le _)
  show wpAny _ _ (do let old ← Builtin.List.listItems (.ref s.heap.objs.size); Builtin.List.listUpdate (.ref s.heap.objs.size) (fun _ => #[]); letGo old.toList.reverse; Builtin.List.listExtendWith (.ref s.heap.objs.size) (.ref a) .none) _ _ _
  refine wpAny_bind ?_
  unfold Builtin.List.listItems
  refine wpAny_bind (wpAny_seqItems hS rfl (wpAny_pure ?_))
  show wpAny _ _ (updateSeq s.heap.objs.size (fun _ => #[]) >>= fun _ => letGo (#[] : Array Value).toList.reverse >>= fun _ => Builtin.List.listExtendWith (.ref s.heap.objs.size) (.ref a) .none) _ _ _
  refine wpAny_bind (wpAny_updateSeq hS rfl ?_)
  have I2 := I1.lset (f := fun _ => #[]) (its := []) (its' := []) (ys := []) (t' := s.toks) upd_same hS rfl .nil (Nat.zero_le _)
  rw [upd_upd] at I2
  refine wpAny_bind (wpAny_letGo ?_)
  have ha2 : upd H s.heap.objs.size (.lst []) a = some (.ins C dx fs) := by rw [upd_ne (ne_of_none ha fr)]; exact ha
  generalize hH : upd H s.heap.objs.size (.lst []) = H2 at *
  have hq2 : H2 s.heap.objs.size = some (.lst []) := by rw [← hH]; exact upd_same
  have hne : s.heap.objs.size ≠ a := ne_of hq2 ha2 (fun z => nomatch z)
  obtain ⟨mA, O, _⟩ := ins_get I2.hok ha2
  obtain ⟨od, J, _⟩ := O.look
  obtain ⟨m0, hF⟩ := I2.fr
  unfold Builtin.List.listExtendWith
  refine wpAny_bind (J.type.here ?_)
  have h1 : Builtin.List.listSameRef (.ref s.heap.objs.size) (.ref a) = false := by simp [Builtin.List.listSameRef, hne]
  have h2 : (Value.ref C == Value.type "list") = false := rfl
  have h3 : (Value.ref C == Value.type "tuple") = false := rfl
  simp only [h1, h2, h3, Bool.or_false, Bool.false_eq_true, if_false]
  refine wpAny_bind (PySem.W.owit_iter hF I2.ok.mod.kin J MI.at_ MI.fn ?_)
  generalize hs2 : ({ s with heap := (s.heap.push { cls := .type "list", data := .seq #[] }).update s.heap.objs.size (Obj.mapSeq fun _ => #[]) } : Shared) = s2 at *
  have sz2 : s.heap.objs.size < s2.heap.objs.size := by
    obtain ⟨z, its, k, r3, hl3, e3⟩ := I2.lstM hq2
    exact Heap.lt_size e3
  have e0 : ∀ {s3 H3}, Inv X pins σ H3 s3 → Env0 X.prog X.w X.K X.mg X.base X.A.in1.in1 X.stack s3 H3 := fun I => I.env0.in1.in1
  have hsp : spIt X.K tp s2.heap.objs.size [.ref a] H2 (fun v H' => ∃ it, v = .ref it ∧ H2 it = none ∧ s2.heap.objs.size ≤ it ∧ H' = upd H2 it (TiO t it 0)) (fun _ _ _ => False) := ⟨a, t, zs, rfl, htp, hsq, fun it hn hs => ⟨it, rfl, hn, hs, rfl⟩⟩
  have hl : ([Value.ref a] ++ ([] : List Value)).length = psI.length := FI.len _ _ _ _ _ hsp
  refine wpAny_call (codeAny_mono (FI.run _ X.stack s2 H2 ⟨[.ref a], []⟩ [.ref a] [.ref a] _ _ hrI.in1.in1 (e0 I2) (bI s2 [.ref a] I2.kIn hl) (.cons rfl .nil) hsp) fun r s' hq' => ?_)
  cases r with
  | error e => exact absurd hq' (by intro z; exact z)
  | ok fl =>
    cases fl with
    | ret u =>
      obtain ⟨v, H', I3, rv, it, rfl, hn, hs, rfl⟩ := I2.after hq'
      cases rv
      have ei : s'.heap.get? it = some (tiObj t 0) := (I3.hok it _ upd_same).1
      have st : s'.heap.IsTupleIter it t 0 := ⟨_, ei, rfl, rfl⟩
      refine wpAny_specialOf (name := Str.ofString "__next__") st.typeIs PySem.F.slot_tuple_iterator_next.lookup ?_
      have ha3 : upd H2 it (TiO t it 0) a = some (.ins C dx fs) := by rw [upd_ne (ne_of_none ha2 hn)]; exact ha2
      have nqi : it ≠ s.heap.objs.size := Nat.ne_of_gt (Nat.lt_of_lt_of_le sz2 hs)
      refine wpAny_bind (wpAny_holding (hint_own ML FL bL hrL.in1.in1.in1 I3.env0.in1.in1.in1 I3 ha3 (hlen it _ rfl hn) fun b s4 I4 => ?_))
      have hq3 : upd H2 it (TiO t it 0) s.heap.objs.size = some (.lst []) := by rw [upd_ne nqi.symm]; exact hq2
      have fin : ∀ s5, Inv X pins σ (upd H2 it (TiO t it 0)) s5 → codeAny (model X.prog X.w) X.A.in1 (.builtin "list.extend.loop" ⟨[.ref s.heap.objs.size, .ref it, .none], []⟩) (wants (fun r s₂ => r = .none ∧ EP X pins σ Q (.ref s.heap.objs.size) s₂) X.xe) s5 := fun s5 I5 => by
        have e5 : s5.heap.get? it = some (tiObj t 0) := (I5.hok it _ upd_same).1
        have st5 : s5.heap.IsTupleIter it t 0 := ⟨_, e5, rfl, rfl⟩
        have I6 : Inv X pins σ H2 s5 := by
          have := ItX.inv_drop I5 (a := it) upd_same
          rwa [ItX.dropH_upd hn] at this
        have fp := ItX.inv_fp I5 (u := TiO t it 0) upd_same (Nat.le_trans I2.sz hs)
        rw [ItX.dropH_upd hn] at fp
        have e0' : upd H2 s.heap.objs.size (.lst (zs.take 0)) = H2 := by
          funext b
          by_cases hb : b = s.heap.objs.size
          · rw [hb, upd_same, hq2]; rfl
          · rw [upd_ne hb]
        refine tup_loop (A1 := X.A.in1) (Rs := wants (fun r s₂ => r = .none ∧ EP X pins σ Q (.ref s.heap.objs.size) s₂) X.xe) (i := 0) (m := zs.length) (I6.ok.hd hc) hsq hq2 hz fp nqi (fun s7 I7 => ⟨rfl, .ref s.heap.objs.size, _, I7, rfl, ?_⟩) s5 (by omega) (by rw [e0']; exact I6) st5
        have : upd H2 s.heap.objs.size (.lst zs) = upd H s.heap.objs.size (.lst zs) := by rw [← hH, upd_upd]
        rw [this]
        exact hQ
      refine wpAny_ite_split (fun _ => ?_) (fun _ => wpAny_pure ⟨plainId_quiet PySem.F.plain_extend_loop _, fin _ I4⟩)
      refine wpAny_bind (wpAny_rule ?_)
      refine wpAny_bind ?_
      show wpAny _ _ (updateSeq s.heap.objs.size (·.push .none) >>= fun _ => updateSeq s.heap.objs.size (·.pop)) _ _ _
      obtain ⟨z3, its3, k3, r3, hl3, e3⟩ := I4.lstM hq3
      cases r3
      refine wpAny_bind (wpAny_updateSeq e3 rfl ?_)
      have I5 := I4.lset (f := (·.push Value.none)) (its' := [Value.none]) (ys := [.non]) (t' := s4.toks) hq3 e3 (by simp) (.cons rfl .nil) (by rw [List.length_singleton, sizeLine_eq]; decide)
      obtain ⟨z4, its4, k4, r4, hl4, e4⟩ := I5.lstM upd_same
      obtain ⟨u4, rfl, ru4⟩ := r4.one
      refine wpAny_updateSeq e4 rfl ?_ (by show 1 ≤ sizeLine; rw [sizeLine_eq]; decide) (by show 0 ≤ sizeLine + 1; exact Nat.zero_le _)
      refine wpAny_pure ⟨plainId_quiet PySem.F.plain_extend_loop _, fin _ ?_⟩
      have I6 := I5.lset (f := (·.pop)) (its := [u4]) (its' := []) (ys := []) (t' := s4.toks) upd_same e4 (by rfl) .nil (Nat.zero_le _)
      rw [upd_upd] at I6
      have hH' : upd (upd H2 it (TiO t it 0)) s.heap.objs.size (.lst []) = upd H2 it (TiO t it 0) := by
        funext b
        by_cases hb : b = s.heap.objs.size
        · rw [hb, upd_same, hq3]
        · rw [upd_ne hb]
      rw [hH'] at I6
      exact I6
    | _ => exact False.elim hq'
end
theorem fnR_ok {P : Program} {w : World} {K : PySem.W.Frag} {mg : Str → Option Value} {base : Heap} {CX : CXT} {k : Nat} {f : Addr} {fd : FuncData} {ps : List Str} {sp : Sp} (F : FnOk P w K mg base CX k f fd ps sp) (hb : Binds K fd ps []) : FnR P w K mg base CX k f sp :=
  (F.raw hb .nil).imp fun vs H Q E h => by rw [List.append_nil]; exact h
/-- a call that is shown to raise nothing -/
theorem passN {X : Cx} : Passes (L2.CX X.prog X.w) X (fun _ _ _ => False) := fun pins σ H s e s' I c => by
  obtain ⟨a, B, H', cls, d, rfl, fl, hok, ub, na, os, ag, hE⟩ := c
  exact hE.elim
end Sl
/-! tuple * int for 0 and 1 too -/
namespace Sl
open PySem PySem.Spec PyProof.Rows L2
theorem tuple_mul0 (l : Addr) (items : Array Value) (n : Nat) (dd : Option Addr) (sl : Array (Option Value)) (x : Int) (u : Tok) (c0 : (decide (x < -(2 ^ 63)) || decide (x ≥ 2 ^ 63)) = false) (c1 : (items.isEmpty || x == 1) = false) (c2 : (decide (x ≤ 0) || items.isEmpty) = true) :
    Meets (Builtin.«tuple.__mul__» ⟨[.ref l, .int x u], []⟩) (fun _ R s => s.heap.get? l = some { cls := .type "tuple", dict := dd, data := .seq items n, slots := sl } ∧
      R (.ok (.ret (Value.ref s.heap.objs.size))) { s with heap := s.heap.push { cls := Value.type "tuple", data := Data.seq #[] }, toks := s.toks }) :=
  .of_wp fun prog w A R s h => by
    obtain ⟨hp, g, d, tk, os⟩ := s
    obtain ⟨hl, h⟩ := h
    have f1 := AutoSeq1.idx_int
    wp_walk using wpAny_loadPart' hl
    repeat (first
      | (refine wpAny_ite_false (decide_eq_false (by rw [c0]; exact Bool.false_ne_true)) ?_; wp_walk using wpAny_loadPart' hl)
      | (refine wpAny_ite_false (decide_eq_false (by rw [c1]; exact Bool.false_ne_true)) ?_; wp_walk using wpAny_loadPart' hl)
      | (refine wpAny_ite_true (decide_eq_true c2) ?_; wp_walk using wpAny_loadPart' hl))
    exact ⟨_, rfl, h⟩
theorem tuple_mul1 (l : Addr) (items : Array Value) (n : Nat) (dd : Option Addr) (sl : Array (Option Value)) (x : Int) (u : Tok) (c0 : (decide (x < -(2 ^ 63)) || decide (x ≥ 2 ^ 63)) = false) (c1 : (items.isEmpty || x == 1) = true) :
    Meets (Builtin.«tuple.__mul__» ⟨[.ref l, .int x u], []⟩) (fun _ R s => s.heap.get? l = some { cls := .type "tuple", dict := dd, data := .seq items n, slots := sl } ∧
      R (.ok (.ret (Value.ref l))) s) :=
  .of_wp fun prog w A R s h => by
    obtain ⟨hp, g, d, tk, os⟩ := s
    obtain ⟨hl, h⟩ := h
    have f1 := AutoSeq1.idx_int
    wp_walk using wpAny_loadPart' hl
    repeat (first
      | (refine wpAny_ite_false (decide_eq_false (by rw [c0]; exact Bool.false_ne_true)) ?_; wp_walk using wpAny_loadPart' hl)
      | (refine wpAny_ite_true (decide_eq_true c1) ?_; wp_walk using wpAny_loadPart' hl))
    exact ⟨_, rfl, h⟩
def rRepT2 (K : PySem.W.Frag) : R2 := fun x y H Q => ∃ l k xs, x = .ref l ∧ y = .int k ∧ SqT K H l xs ∧ xs ≠ [] ∧ 0 ≤ k ∧ k ≤ 1000 ∧ xs.length ≤ 1000 ∧ (k = 1 → Q (.ref l) H) ∧ (k ≠ 1 → ∀ p, H p = none → Q (.ref p) (upd H p (.tup (List.replicate k.toNat xs).flatten)))
theorem op_repT2 {X : Cx} {K : PySem.W.Frag} (hK : X.K = K) : OpR X (binaryOp .Mult) (rRepT2 K) := by
  subst hK
  intro pins s σ H x y v u Q I rx ry h
  obtain ⟨l, k, xs, rfl, rfl, hT, hne, h1, h2, hz, q1, q2⟩ := h
  by_cases k2 : 2 ≤ k
  · exact op_repT pins s σ H _ _ v u Q I rx ry ⟨l, k, xs, rfl, rfl, hT, hne, k2, h2, hz, q2 (by omega)⟩
  cases rx
  obtain ⟨t, rfl⟩ := ry
  obtain ⟨its, r, ⟨⟨cls, dd, data, sl⟩, ho, hc, n, hd⟩, hs⟩ := I.tuple hT
  simp only at hc hd
  subst hc hd
  have hle : its.length = xs.length := r.length.symm
  have hn : its ≠ [] := fun e => hne (by
    rw [e] at hle
    exact List.eq_nil_of_length_eq_zero hle.symm)
  have hi : its.toArray.isEmpty = false := by
    cases its with
    | nil => exact absurd rfl hn
    | cons a b => rfl
  have c0 : (decide (k < -(2 ^ 63)) || decide (k ≥ 2 ^ 63)) = false := by
    rw [decide_eq_false (by omega), decide_eq_false (by omega)] <;> rfl
  by_cases k1 : k = 1
  · have c1 : (its.toArray.isEmpty || k == 1) = true := by rw [k1, hi]; rfl
    refine wpAny_binaryOp_repeat_ref (T := "tuple") (U := "int") (by decide) ⟨_, ho, rfl⟩ (fun s' => typeIs_int s' k t) noFill_tuple_mul F.fills_int_mul F.slot_int_rmul repeat_tuple F.slot_int_index.lookup
      (call_meets F.slot_int_rmul (typeIs_int s k t) F.entry_int_rmul (F.args_int_rmul_2 _ _) (int_rmul_tuple k t l its.toArray n dd sl)
        ⟨ho, rfl, ⟨_, ho, rfl⟩, call_meets F.slot_tuple_mul ⟨_, ho, rfl⟩ F.entry_tuple_mul (F.args_tuple_mul_2 _ _) (tuple_mul1 l its.toArray n dd sl k t c0 c1) ⟨ho, ?_⟩⟩)
    exact ⟨.ref l, H, I, rfl, q1 k1⟩
  · have c1 : (its.toArray.isEmpty || k == 1) = false := by
      rw [hi, Bool.false_or]
      exact beq_eq_false_iff_ne.mpr (by omega)
    have c2 : (decide (k ≤ 0) || its.toArray.isEmpty) = true := by rw [decide_eq_true (by omega)]; rfl
    refine wpAny_binaryOp_repeat_ref (T := "tuple") (U := "int") (by decide) ⟨_, ho, rfl⟩ (fun s' => typeIs_int s' k t) noFill_tuple_mul F.fills_int_mul F.slot_int_rmul repeat_tuple F.slot_int_index.lookup
      (call_meets F.slot_int_rmul (typeIs_int s k t) F.entry_int_rmul (F.args_int_rmul_2 _ _) (int_rmul_tuple k t l its.toArray n dd sl)
        ⟨ho, rfl, ⟨_, ho, rfl⟩, call_meets F.slot_tuple_mul ⟨_, ho, rfl⟩ F.entry_tuple_mul (F.args_tuple_mul_2 _ _) (tuple_mul0 l its.toArray n dd sl k t c0 c1 c2) ⟨ho, ?_⟩⟩)
    have e : (List.replicate k.toNat xs).flatten = [] := by rw [show k = 0 by omega]; rfl
    have q3 := q2 k1
    rw [e] at q3
    refine ⟨.ref s.heap.objs.size, _, I.laid (t' := s.toks) (o := .tup []) (fun b ob q => Heap.get?_push_of_some _ q) (Nat.le_refl _) ?_, rfl, q3 _ (I.hok.fresh (Nat.le_refl _))⟩
    exact ⟨Nat.zero_le _, _, .nil, IsTup.new _ _⟩
end Sl
namespace Sl
open PySem PySem.Spec PyProof.Rows L2
local macro_rules | `(tactic| walk_at "nin") => `(tactic| first | assumption | exact List.not_mem_nil | (simp only [List.mem_cons, List.not_mem_nil, not_or, or_false, not_false_eq_true, and_true]; first | assumption | walk_at "ne" | (refine ⟨?_, ?_⟩ <;> walk_at "ne") | (refine ⟨?_, ?_, ?_⟩ <;> walk_at "ne")))
local macro_rules | `(tactic| walk_at "ne") => `(tactic| first | assumption | exact Ne.symm (by assumption) | (refine Fr.ne ?_ ?_ <;> first | assumption | walk_at "hp") | (refine Ne.symm (Fr.ne ?_ ?_) <;> first | assumption | walk_at "hp"))
local macro_rules | `(tactic| walk_at "hp") => `(tactic| first
  | assumption
  | exact upd_same
  | (refine Eq.trans (upd_ne ?_) ?_ <;> first | walk_at "hp" | walk_at "ne")
  | (refine Kp.get (by assumption) ?_ ?_ <;> first | walk_at "hp" | exact .inr rfl | exact .inl List.not_mem_nil | (refine .inl ?_; walk_at "nin")))
local macro_rules | `(tactic| walk_at "sl") => `(tactic| first | assumption | (refine .inl (.inl ?_); walk_at "hp") | (refine Kp.sqL (by assumption) ?_ ?_ <;> first | walk_at "sl" | walk_at "nin") | (refine Kp.sqL (Kp.new (by assumption)) (A := []) List.not_mem_nil ?_; walk_at "sl"))
local macro_rules | `(tactic| walk_at "rd") => `(tactic| first
  | refine ⟨_, rfl, ?_⟩
  | refine ⟨_, _, rfl, rfl, ?_⟩
  | refine ⟨_, _, rfl, rfl, (by first | decide | omega), ?_⟩
  | refine .inl ⟨_, rfl, ?_⟩
  | refine ⟨rfl, ?_⟩
  | refine ⟨_, _, _, _, rfl, rfl, (by walk_at "sl"), rfl, ?_⟩)
local macro_rules | `(tactic| walk_at "rds") => `(tactic| repeat (walk_at "rd"))
local macro_rules | `(tactic| walk_at "vl") => `(tactic| first
  | exact vl_c
  | exact vl_var rfl
  | (refine' vl_op ?h1 ?h2 ?h3; (case h1 => walk_at "vl"); (case h2 => walk_at "vl"); (case h3 => walk_at "rl"))
  | (refine' vl_un ?h1 ?h3; (case h1 => walk_at "vl"); (case h3 => walk_at "rl"))
  | (refine' vl_cb1 ?h1 ?h3; (case h1 => walk_at "vl"); (case h3 => walk_at "rl"))
  | (refine' vl_cb2 ?h1 ?h2 ?h3; (case h1 => walk_at "vl"); (case h2 => walk_at "vl"); (case h3 => walk_at "rl"))
  | (refine' vl_not ?h1; (case h1 => walk_at "vl"))
  | (refine' vl_andV ?h1 ?h2; (case h1 => walk_at "vl"); (case h2 => intro _; walk_at "vl"))
  | (refine' vl_orV ?h1 ?h2; (case h1 => walk_at "vl"); (case h2 => intro _; walk_at "vl"))
  | (refine' vl_chain ?h1 ?h2 ?h3 ?h4 ?h5; (case h1 => walk_at "vl"); (case h2 => walk_at "vl"); (case h4 => walk_at "rl"); (case h3 => intro _; walk_at "vl"); (case h5 => intro _; walk_at "rl")))
local macro_rules | `(tactic| walk_at "rl") => `(tactic| (intro Q' q'; first
  | exact ⟨_, _, rfl, rfl, q'⟩
  | exact ⟨rfl, q'⟩
  | exact ⟨_, rfl, q'⟩
  | exact .inl ⟨_, rfl, q'⟩
  | exact ⟨_, _, _, _, rfl, rfl, (by assumption), rfl, q'⟩
  | exact ⟨_, _, rfl, .inr ⟨_, by assumption, rfl⟩, q'⟩
  | exact ⟨_, _, rfl, .inl ⟨_, by assumption, rfl⟩, q'⟩
  | exact ⟨_, rfl, (by first | assumption | exact sz (by assumption) | exact sz (by omega)), q'⟩
  | exact ⟨_, _, rfl, rfl, (by first | assumption | exact ⟨by omega, by omega⟩ | (show (0 : Int) < _; omega) | exact .inl ⟨by omega, by omega⟩ | exact .inr ⟨by omega, by omega⟩), q'⟩))
local macro_rules | `(tactic| walk_at "an") => `(tactic| first
  | (refine' an_and ?h1 ?h2; (case h1 => walk_at "an"); (case h2 => intro _; walk_at "an"))
  | (refine' an_or ?h1 ?h2; (case h1 => walk_at "an"); (case h2 => intro _; walk_at "an"))
  | (refine' an_not ?h1; (case h1 => walk_at "an"))
  | (refine' an_cmp ?h1 ?h2 ?h3; (case h1 => walk_at "vl"); (case h2 => walk_at "vl"); (case h3 => walk_at "rl"))
  | (refine' an_val ?h1; (case h1 => walk_at "vl"))
  | (refine' an_test ?h1; (case h1 => walk_at "vl")))
local macro_rules | `(tactic| walk_at "if") => `(tactic| ((try refine gnK ?_); (first | refine' seq_if0 ?h ?k1 ?k2 | refine' seq_if ?h ?k1 ?k2 | refine' if_an ?h ?k1 ?k2); (case h => walk_at "an")))
local macro_rules | `(tactic| walk_at "st") => `(tactic| ((try refine gnK ?_); first | refine seq_setK ?_ | refine setK ?_ | refine seq_dropK ?_ | refine dropK' ?_ | refine seq_ifK0 ?_ | refine seq_ifK ?_ | refine if_anK ?_ | refine retK ?_ | refine nextK ?_))
local macro_rules | `(tactic| walk_at "set") => `(tactic| (refine' seq_set ?h ?k; (case h => walk_at "vl")))
/-! ### plain and full names -/
def isLet (c : Nat) : Bool := decide (97 ≤ c) && decide (c ≤ 122)
def isDig (c : Nat) : Bool := decide (48 ≤ c) && decide (c ≤ 57)
theorem mem_let (c : Nat) : decide (c ∈ ("abcdefghijklmnopqrstuvwxyz" : Str).cps.toList) = isLet c := by
  have e : ("abcdefghijklmnopqrstuvwxyz" : Str).cps.toList = [97, 98, 99, 100, 101, 102, 103, 104, 105, 106, 107, 108, 109, 110, 111, 112, 113, 114, 115, 116, 117, 118, 119, 120, 121, 122] := by decide +kernel
  rw [e, isLet, ← Bool.decide_and, decide_eq_decide]
  simp only [List.mem_cons, List.not_mem_nil, or_false]
  omega
theorem mem_dig (c : Nat) : decide (c ∈ ("0123456789" : Str).cps.toList) = isDig c := by
  have e : ("0123456789" : Str).cps.toList = [48, 49, 50, 51, 52, 53, 54, 55, 56, 57] := by decide +kernel
  rw [e, isDig, ← Bool.decide_and, decide_eq_decide]
  simp only [List.mem_cons, List.not_mem_nil, or_false]
  omega
theorem dig_let {c : Nat} (h : isDig c = true) : isLet c = false := by
  simp only [isDig, isLet, Bool.and_eq_true, decide_eq_true_eq, Bool.and_eq_false_iff, decide_eq_false_iff_not] at *
  omega
def nameL : List Nat → Bool
  | [] => false
  | c :: r => isLet c && ((c :: r).all (fun c => isLet c || isDig c) && decide ((c :: r).length ≤ 8))
def isName (s : Str) : Bool := nameL (TL.tl s)
theorem isName_len {s : Str} (h : isName s = true) : 1 ≤ s.length ∧ s.length ≤ 8 := by
  unfold isName at h
  rw [TL.len_tl]
  cases e : TL.tl s with
  | nil => rw [e] at h; cases h
  | cons c r =>
    rw [e] at h
    simp only [nameL, Bool.and_eq_true, decide_eq_true_eq] at h
    exact ⟨by simp, h.2.2⟩
theorem isName_at {s : Str} {c : Nat} (h : s.cps[0]? = some c) (hl : s.length ≤ 8) : isName s = (isLet c && (TL.tl s).all (fun c => isLet c || isDig c)) := by
  unfold isName
  rw [TL.len_tl] at hl
  have h' : (TL.tl s)[0]? = some c := by rw [← h]; simp [TL.tl]
  cases e : TL.tl s with
  | nil => rw [e] at h'; cases h'
  | cons d r =>
    rw [e] at h' hl
    cases h'
    simp only [nameL, decide_eq_true hl, Bool.and_true]
theorem isName_no {s : Str} (h : ¬ (1 ≤ s.length ∧ s.length ≤ 8)) : isName s = false := by
  cases e : isName s with
  | false => rfl
  | true => exact absurd (isName_len e) h
theorem asB {Q : VK} {b b' : Bool} {H : Hp} (q : Q (.bl b) H) (e : b = b') : Q (.bl b') H := e ▸ q
theorem atS {s : Str} {i : Nat} (h : i < s.length) : ∃ c, s.cps[i]? = some c ∧ atI s.cps.toList (i : Int) = some c := by
  have h' : i < s.cps.size := h
  refine ⟨s.cps[i], by simp [h'], atI_nat (by simp [h'])⟩
theorem all_false {p : Nat → Bool} {s : Str} {i : Nat} {c : Nat} (h : s.cps[i]? = some c) (hp : p c = false) : (TL.tl s).all p = false := by
  have h' : (TL.tl s)[i]? = some c := by rw [← h]; simp [TL.tl]
  cases e : (TL.tl s).all p with
  | false => rfl
  | true =>
    rw [List.all_eq_true] at e
    have := e c (List.mem_of_getElem? h')
    rw [hp] at this; cases this
theorem all_true {p : Nat → Bool} {s : Str} (h : ∀ (j c : Nat), s.cps[j]? = some c → p c = true) : (TL.tl s).all p = true := by
  rw [List.all_eq_true]
  intro c hc
  obtain ⟨j, hj⟩ := List.mem_iff_getElem?.mp hc
  exact h j c (by rw [← hj]; simp [TL.tl])
/-- the pieces of a text are no longer than it -/
theorem spl_short (S : List Nat) : ∀ (k : Nat) (acc l : List Nat), ∀ p ∈ TL.spl S k acc l, p.length ≤ acc.length + l.length
  | k, acc, [], p, h => by
    rw [TL.spl_nil] at h
    rw [List.mem_singleton.mp h]
    simp
  | 0, acc, c :: r, p, h => by
    unfold TL.spl at h
    split at h
    · rcases List.mem_cons.mp h with e | e
      · rw [e]; omega
      · have := spl_short S _ [] r p e
        simp at this ⊢; omega
    · have := spl_short S 0 (acc ++ [c]) r p h
      simp at this ⊢; omega
  | k + 1, acc, c :: r, p, h => by
    unfold TL.spl at h
    have := spl_short S k acc r p h
    simp at this ⊢; omega
theorem dot_tl : TL.tl ("." : Str) = [46] := by decide +kernel
theorem kind_dot (x : Str) : ¬ Builtin.Str.strKind x < Builtin.Str.strKind ("." : Str) := TL.kind_ok (by decide +kernel)
theorem split_short {s p : Str} (h : p ∈ Txt.split s ".") : p.length ≤ s.length := by
  have e := TL.split_spl s "." (by rw [dot_tl]; simp) (kind_dot s)
  have hp : TL.tl p ∈ TL.spl (TL.tl ".") 0 [] (TL.tl s) := by rw [← e]; exact List.mem_map_of_mem h
  have := spl_short _ _ _ _ _ hp
  rw [TL.len_tl, TL.len_tl]
  simpa using this
theorem split_join_dot {parts : List Str} (hne : parts ≠ []) (hp : ∀ p ∈ parts, 46 ∉ TL.tl p) : Txt.split (Txt.join "." parts) "." = parts :=
  TL.split_join dot_tl (by decide +kernel) hne hp
def isFull (s : Str) : Bool := (Txt.split s ".").all isName
theorem join_dot {ps : List Str} : TL.tl (Txt.join "." ps) = TL.joinL [46] (ps.map TL.tl) := by
  rw [TL.join_eq, TL.tl_join, dot_tl]
theorem joinL_short : ∀ (ls : List (List Nat)), (∀ l ∈ ls, l.length ≤ 9) → (TL.joinL [46] ls).length ≤ 10 * ls.length
  | [], _ => by simp [TL.joinL]
  | [p], h => by have := h p (List.mem_cons_self ..); simp [TL.joinL]; omega
  | p :: q :: r, h => by
    have h1 := h p (List.mem_cons_self ..)
    have ih := joinL_short (q :: r) fun l hl => h l (List.mem_cons_of_mem _ hl)
    simp only [TL.joinL, List.length_append, List.length_cons, List.length_nil] at ih ⊢
    omega
theorem join_short {ps : List Str} (h : ∀ s ∈ ps, s.length ≤ 9) : (Txt.join "." ps).length ≤ 10 * ps.length := by
  rw [TL.len_tl, join_dot]
  have := joinL_short (ps.map TL.tl) fun l hl => by
    obtain ⟨s, hs, rfl⟩ := List.mem_map.mp hl
    rw [← TL.len_tl]; exact h s hs
  simpa using this
theorem sum_short {ps : List Str} (h : ∀ s ∈ ps, s.length ≤ 9) : (ps.map (·.length)).sum ≤ 9 * ps.length := by
  induction ps with
  | nil => simp
  | cons p ps ih =>
    have h1 := h p (List.mem_cons_self ..)
    have h2 := ih fun s hs => h s (List.mem_cons_of_mem _ hs)
    simp only [List.map_cons, List.sum_cons, List.length_cons]
    omega
theorem isFull_join {ps : List Str} (hne : ps ≠ []) (h : ∀ s ∈ ps, 46 ∉ TL.tl s) : isFull (Txt.join "." ps) = ps.all isName := by
  unfold isFull
  rw [split_join_dot hne h]
theorem isName_join {ps : List Str} (hne : ps ≠ []) (h : ∀ s ∈ ps, 46 ∉ TL.tl s) : isName (Txt.join "." ps) = (ps.all isName && decide ((ps.length : Int) = 1)) := by
  match ps, hne with
  | [p], _ =>
    have e : Txt.join "." [p] = p := TL.ext_tl (by rw [join_dot]; rfl)
    rw [e]; simp
  | p :: q :: r, _ =>
    have hl : ¬ (((p :: q :: r).length : Nat) : Int) = 1 := by simp only [List.length_cons]; omega
    rw [decide_eq_false hl, Bool.and_false]
    unfold isName
    have hm : 46 ∈ TL.tl (Txt.join "." (p :: q :: r)) := by
      rw [join_dot]
      simp only [List.map_cons, TL.joinL, List.mem_append]
      exact .inr (.inl (by simp))
    cases e : TL.tl (Txt.join "." (p :: q :: r)) with
    | nil => rfl
    | cons x t =>
      rw [e] at hm
      have : (x :: t).all (fun c => isLet c || isDig c) = false := by
        cases z : (x :: t).all (fun c => isLet c || isDig c) with
        | false => rfl
        | true => have := List.all_eq_true.mp z 46 hm; revert this; decide
      simp only [nameL, this, Bool.false_and, Bool.and_false]
/-- the keys of a dict of texts -/
def keysOf (kvs : List (Key × V)) : List Key := kvs.map (·.1)
theorem nd_putKA {kvs : List (Key × V)} {k : Key} (v : V) (h : (keysOf kvs).Nodup) : (keysOf (putK kvs k v)).Nodup := by
  cases e : valV kvs k with
  | none => exact nd_putK v h e
  | some x =>
    have a : (kvs.any fun kv => decide (kv.1 = k)) = true := by rw [valV_any, e]; rfl
    have e2 : keysOf (putK kvs k v) = keysOf kvs := by
      unfold putK keysOf
      rw [if_pos a, List.map_map]
      refine List.map_congr_left fun p _ => ?_
      show (if p.1 = k then (p.1, v) else p).1 = p.1
      split <;> rfl
    rw [e2]; exact h
theorem keys_put {kvs : List (Key × V)} {k : Key} {v : V} : (∀ x, x ∈ keysOf (putK kvs k v) ↔ x ∈ keysOf kvs ∨ x = k) := by
  intro x
  have e : ∀ l : List (Key × V), x ∈ keysOf l ↔ (valV l x).isSome = true := fun l => by
    rw [← valV_any, List.any_eq_true, keysOf, List.mem_map]
    constructor
    · rintro ⟨p, hp, rfl⟩; exact ⟨p, hp, by simp⟩
    · rintro ⟨p, hp, h⟩; exact ⟨p, hp, by simpa using h⟩
  rw [e, e, valV_put]
  by_cases h : x = k
  · simp [h]
  · simp [h]
structure Mgd (kvs : List (Key × V)) (xs : List Str) : Prop where
  nd : (keysOf kvs).Nodup
  mem : ∀ x : Key, x ∈ keysOf kvs ↔ ∃ s ∈ xs, x = Sum.inr s
theorem Mgd.put {kvs : List (Key × V)} {xs : List Str} {s : Str} {v : V} (m : Mgd kvs xs) : Mgd (putK kvs (Sum.inr s) v) (xs ++ [s]) := by
  refine ⟨nd_putKA _ m.nd, fun x => ?_⟩
  rw [keys_put, m.mem]
  constructor
  · rintro (⟨t, ht, rfl⟩ | rfl)
    · exact ⟨t, List.mem_append_left _ ht, rfl⟩
    · exact ⟨s, List.mem_append_right _ (List.mem_singleton.mpr rfl), rfl⟩
  · rintro ⟨t, ht, rfl⟩
    rcases List.mem_append.mp ht with h | h
    · exact .inl ⟨t, h, rfl⟩
    · rw [List.mem_singleton.mp h]; exact .inr rfl
theorem Mgd.keys {kvs : List (Key × V)} {xs : List Str} (m : Mgd kvs xs) : ∃ ks : List Str, keysOf kvs = ks.map Sum.inr ∧ ks.Nodup ∧ ∀ s, s ∈ ks ↔ s ∈ xs := by
  have go : ∀ l : List Key, l.Nodup → (∀ x ∈ l, ∃ s, x = Sum.inr s) → ∃ ks : List Str, l = ks.map Sum.inr ∧ ks.Nodup := by
    intro l
    induction l with
    | nil => exact fun _ _ => ⟨[], rfl, List.nodup_nil⟩
    | cons x l ih =>
      intro nd h
      obtain ⟨s, rfl⟩ := h x (List.mem_cons_self ..)
      obtain ⟨ks, e, n⟩ := ih (List.nodup_cons.mp nd).2 fun y hy => h y (List.mem_cons_of_mem _ hy)
      refine ⟨s :: ks, by rw [e]; rfl, List.nodup_cons.mpr ⟨fun hm => (List.nodup_cons.mp nd).1 (by rw [e]; exact List.mem_map_of_mem hm), n⟩⟩
  obtain ⟨ks, e, n⟩ := go _ m.nd fun x hx => by
    obtain ⟨s, _, rfl⟩ := (m.mem x).mp hx
    exact ⟨s, rfl⟩
  refine ⟨ks, e, n, fun s => ?_⟩
  have h := m.mem (Sum.inr s)
  rw [e] at h
  constructor
  · intro hs
    obtain ⟨t, ht, q⟩ := h.mp (List.mem_map_of_mem hs)
    cases q; exact ht
  · intro hs
    obtain ⟨t, ht, q⟩ := List.mem_map.mp (h.mpr ⟨s, hs, rfl⟩)
    cases q; exact ht
theorem nodup_short : ∀ {l m : List Str}, l.Nodup → (∀ x ∈ l, x ∈ m) → l.length ≤ m.length
  | [], _, _, _ => Nat.zero_le _
  | x :: l, m, nd, h => by
    have hx := h x (List.mem_cons_self ..)
    have n := List.nodup_cons.mp nd
    have ih := nodup_short (m := m.erase x) n.2 fun y hy => (List.mem_erase_of_ne (fun e => by subst e; exact n.1 hy)).mpr (h y (List.mem_cons_of_mem _ hy))
    rw [List.length_erase_of_mem hx] at ih
    have : 0 < m.length := List.length_pos_of_mem hx
    simp only [List.length_cons]; omega
theorem mem_keys_len {kvs : List (Key × V)} {xs : List Str} (m : Mgd kvs xs) : kvs.length ≤ xs.length := by
  obtain ⟨ks, e, nd, h⟩ := m.keys
  have h1 : kvs.length = ks.length := by
    have := congrArg List.length e
    simpa [keysOf] using this
  rw [h1]
  exact nodup_short nd fun x hx => (h x).mp hx
/-- texts in ascending order -/
def srtL (l : List Str) : List Str := l.mergeSort (fun a b => !decide (slt b a))
theorem srtL_perm (l : List Str) : (srtL l).Perm l := List.mergeSort_perm _ _
theorem srtL_len (l : List Str) : (srtL l).length = l.length := (srtL_perm l).length_eq
theorem srt_eq {ys l : List Str} (p : ys.Perm l) (s : sortedS ys = true) : ys = srtL l := by
  have h1 : ys.Pairwise (fun a b => ¬ slt b a) := by
    cases ys with
    | nil => exact .nil
    | cons x r => exact rising_pw x r s
  have h2 : (srtL l).Pairwise (fun a b => ¬ slt b a) := by
    refine (List.pairwise_mergeSort (le := fun a b => !decide (slt b a)) (fun a b c h1 h2 => ?_) (fun a b => ?_) l).imp fun h => by simpa using h
    · simp only [Bool.not_eq_true', decide_eq_false_iff_not] at h1 h2 ⊢
      intro z
      rcases slt_tri a b with q | q | q
      · exact h2 (slt_trans z q)
      · subst q; exact h2 z
      · exact h1 q
    · simp only [Bool.or_eq_true, Bool.not_eq_true', decide_eq_false_iff_not]
      by_cases h : slt b a
      · exact .inr (slt_asymm h)
      · exact .inl h
  refine List.Perm.eq_of_pairwise (fun a b _ _ h1 h2 => ?_) h1 h2 (p.trans (srtL_perm l).symm)
  rcases slt_tri a b with q | q | q
  · exact absurd q h2
  · exact q
  · exact absurd q h1
/-- the first text that is no name of its place -/
def badNm (n : Str) (sh hi : List Str) : Option Str := ((n :: sh).find? fun t => !isName t).or (hi.find? fun t => !isFull t)
/-- the least text that occurs twice, in an ascending list -/
def dupL : List Str → Option Str
  | x :: y :: r => if x = y then some y else dupL (y :: r)
  | _ => none
theorem dup_step {ys : List Str} {i : Nat} {a b : Str} (ha : ys[i]? = some a) (hb : ys[i + 1]? = some b) : dupL (ys.drop i) = if a = b then some b else dupL (ys.drop (i + 1)) := by
  obtain ⟨h1, e1⟩ := List.getElem?_eq_some_iff.mp ha
  obtain ⟨h2, e2⟩ := List.getElem?_eq_some_iff.mp hb
  rw [List.drop_eq_getElem_cons h1, List.drop_eq_getElem_cons h2, e1, e2]
  rfl
theorem dup_end {ys : List Str} {i : Nat} (h : ys.length ≤ i + 1) : dupL (ys.drop i) = none := by
  have : (ys.drop i).length ≤ 1 := by rw [List.length_drop]; omega
  match ys.drop i, this with
  | [], _ => rfl
  | [x], _ => rfl
theorem find_take {α : Type} {p : α → Bool} {l : List α} {i : Nat} {a : α} (ha : l[i]? = some a) (hall : ∀ j b, j < i → l[j]? = some b → p b = false) (hp : p a = true) : l.find? p = some a := by
  induction l generalizing i with
  | nil => simp at ha
  | cons x r ih =>
    cases i with
    | zero => simp at ha; subst ha; simp [hp]
    | succ i =>
      have hx : p x = false := hall 0 x (by omega) (by simp)
      rw [List.find?_cons_of_neg (by simp [hx])]
      exact ih (i := i) (by simpa using ha) fun j b hj hb => hall (j + 1) b (by omega) (by simpa using hb)
theorem find_none {α : Type} {p : α → Bool} {l : List α} (hall : ∀ j b, j < l.length → l[j]? = some b → p b = false) : l.find? p = none := by
  rw [List.find?_eq_none]
  intro x hx
  obtain ⟨j, hj, e⟩ := List.getElem_of_mem hx
  have := hall j x hj (by rw [List.getElem?_eq_getElem hj, e])
  simp [this]
def fldsP (w n : Str) (s h c : Addr) : List (Str × V) := [("word", .str w), ("name", .str n), ("shown", .ref s), ("hidden", .ref h), ("constraints", .ref c)]
/-- a part stands at x -/
structure PartAt (C : Addr) (H : Hp) (x : Addr) (w n : Str) (sh hi : List Str) (cvs : List V) : Prop where
  ex : ∃ dx s h c, H x = some (.ins C dx (fldsP w n s h c)) ∧ H s = some (.tup ((srtL sh).map .str)) ∧ H h = some (.tup ((srtL hi).map .str)) ∧ H c = some (.tup cvs)
def partC (C a : Addr) (H : Hp) (t : Addr) : Prop := ∃ dx w n s h, H a = some (.ins C dx (fldsP w n s h t))
/-- a list or a tuple that H knows -/
def Sh (H : Hp) (a : Addr) (xs : List V) : Prop := H a = some (.lst xs) ∨ H a = some (.tup xs)
theorem Sh.sq {K : PySem.W.Frag} {H : Hp} {a : Addr} {xs : List V} (h : Sh H a xs) : Sq K H a xs := h.imp SqL.of SqT.of
theorem Sh.kp {A : List Addr} {H H' : Hp} {a : Addr} {xs : List V} (h : Sh H a xs) (k : Kp A H H') (n : a ∉ A) : Sh H' a xs := h.imp (fun e => k.get e (.inl n)) fun e => k.get e (.inl n)
theorem Sh.ne {H : Hp} {a x C dx : Addr} {xs : List V} {fs : List (Str × V)} (h : Sh H a xs) (e : H x = some (.ins C dx fs)) : a ≠ x := fun z => by subst z; rcases h with h | h <;> (rw [h] at e; cases e)
theorem sq_var {K : PySem.W.Frag} {σ : L2.St} {H : Hp} {i : Nat} {a : Addr} {xs : List V} {R : It → Hp → Prop} (hv : σ[i]? = some (some (.ref a))) (hs : Sq K H a xs)
    (h : ∀ J G, (∀ A H', a ∉ A → Kp A H H' → G H') → Walk J xs.length G (YAt xs) → R J H) : iList K (tVar i) σ H R ∨ iTup K (tVar i) σ H R :=
  hs.elim (fun s => .inl ⟨_, hv, a, rfl, ⟨_, s⟩, h _ (fun H' => SqL K H' a xs) (fun _ _ n k => k.sqL n s) walk_list⟩) fun s => .inr ⟨_, hv, a, rfl, ⟨_, s⟩, h _ (fun H' => SqT K H' a xs) (fun _ _ _ k => k.sqT s) walk_tup⟩
theorem bad_first {n : Str} {sh hi : List Str} {i : Nat} {z : Str} (h : (n :: sh)[i]? = some z) (hall : ∀ j b, j < i → (n :: sh)[j]? = some b → isName b = true) (hz : isName z = false) : badNm n sh hi = some z := by
  unfold badNm
  rw [find_take h (fun j b hj hb => by rw [hall j b hj hb]; rfl) (by rw [hz]; rfl)]
  rfl
theorem bad_second {n : Str} {sh hi : List Str} {i : Nat} {z : Str} (h1 : (n :: sh).find? (fun t => !isName t) = none) (h : hi[i]? = some z) (hall : ∀ j b, j < i → hi[j]? = some b → isFull b = true) (hz : isFull z = false) : badNm n sh hi = some z := by
  unfold badNm
  rw [h1, find_take h (fun j b hj hb => by rw [hall j b hj hb]; rfl) (by rw [hz]; rfl)]
  rfl
theorem srtL_congr {l m : List Str} (h : l.Perm m) : srtL l = srtL m := by
  refine (srt_eq (ys := srtL l) ((srtL_perm l).trans h) ?_)
  refine sortedS_of_pairwise _ ?_
  refine (List.pairwise_mergeSort (le := fun a b => !decide (slt b a)) (fun a b c h1 h2 => ?_) (fun a b => ?_) l).imp fun {a b} h => ?_
  · simp only [Bool.not_eq_true', decide_eq_false_iff_not] at h1 h2 ⊢
    intro z
    rcases slt_tri a b with q | q | q
    · exact h2 (slt_trans z q)
    · subst q; exact h2 z
    · exact h1 q
  · simp only [Bool.or_eq_true, Bool.not_eq_true', decide_eq_false_iff_not]
    by_cases h : slt b a
    · exact .inr (slt_asymm h)
    · exact .inl h
  · have h' : ¬ slt b a := by simpa using h
    cases e : ltCps b.cps.toList a.cps.toList with
    | false => rfl
    | true => exact absurd ((ltCps_iff _ _).mp e) h'
/-- what a part's arguments must be -/
structure Vd (n : Str) (sh hi : List Str) : Prop where
  hn : isName n = true
  hs : ∀ t ∈ sh, isName t = true
  hh : ∀ t ∈ hi, isFull t = true
  nd : (sh ++ hi).Nodup
theorem dup_asc : ∀ {l : List Str}, l.Pairwise (fun a b => ¬ slt b a) → dupL l = none → Asc l
  | [], _, _ => .nil
  | [x], _, _ => List.pairwise_singleton _ _
  | x :: y :: r, h, d => by
    have h1 := List.pairwise_cons.mp h
    by_cases e : x = y
    · subst e; unfold dupL at d; rw [if_pos rfl] at d; cases d
    · have d' : dupL (y :: r) = none := by unfold dupL at d; rw [if_neg e] at d; exact d
      have ih := dup_asc h1.2 d'
      have xy : slt x y := by
        rcases slt_tri x y with q | q | q
        · exact q
        · exact absurd q e
        · exact absurd q (h1.1 y (List.mem_cons_self ..))
      refine List.pairwise_cons.mpr ⟨fun z hz => ?_, ih⟩
      rcases List.mem_cons.mp hz with q | q
      · rw [q]; exact xy
      · exact slt_trans xy ((List.pairwise_cons.mp ih).1 z q)
theorem asc_dup : ∀ {l : List Str}, Asc l → dupL l = none
  | [], _ => rfl
  | [x], _ => rfl
  | x :: y :: r, h => by
    have h1 := List.pairwise_cons.mp h
    have : x ≠ y := fun e => by subst e; exact slt_irrefl _ (h1.1 x (List.mem_cons_self ..))
    unfold dupL
    rw [if_neg this]
    exact asc_dup h1.2
theorem srtL_pw (l : List Str) : (srtL l).Pairwise (fun a b => ¬ slt b a) := by
  refine (List.pairwise_mergeSort (le := fun a b => !decide (slt b a)) (fun a b c h1 h2 => ?_) (fun a b => ?_) l).imp fun h => by simpa using h
  · simp only [Bool.not_eq_true', decide_eq_false_iff_not] at h1 h2 ⊢
    intro z
    rcases slt_tri a b with q | q | q
    · exact h2 (slt_trans z q)
    · subst q; exact h2 z
    · exact h1 q
  · simp only [Bool.or_eq_true, Bool.not_eq_true', decide_eq_false_iff_not]
    by_cases h : slt b a
    · exact .inr (slt_asymm h)
    · exact .inl h
theorem srtL_asc {l : List Str} (h : l.Nodup) : Asc (srtL l) := by
  have nd : (srtL l).Nodup := (srtL_perm l).nodup_iff.mpr h
  refine List.Pairwise.imp₂ (fun a b h1 h2 => ?_) (srtL_pw l) nd
  rcases slt_tri a b with q | q | q
  · exact q
  · exact absurd q h2
  · exact absurd q h1
theorem vd_of {n : Str} {sh hi : List Str} (h1 : badNm n sh hi = none) (h2 : dupL (srtL (sh ++ hi)) = none) : Vd n sh hi := by
  unfold badNm at h1
  rw [Option.or_eq_none_iff, List.find?_eq_none, List.find?_eq_none] at h1
  exact ⟨by simpa using h1.1 n (List.mem_cons_self ..), fun t ht => by simpa using h1.1 t (List.mem_cons_of_mem _ ht), fun t ht => by simpa using h1.2 t ht,
    (srtL_perm _).nodup_iff.mp (dup_asc (srtL_pw _) h2).nodup⟩
theorem Vd.bad {n : Str} {sh hi : List Str} (v : Vd n sh hi) : badNm n sh hi = none := by
  unfold badNm
  rw [Option.or_eq_none_iff, List.find?_eq_none, List.find?_eq_none]
  refine ⟨fun t ht => ?_, fun t ht => by simp [v.hh t ht]⟩
  rcases List.mem_cons.mp ht with e | e
  · subst e; simp [v.hn]
  · simp [v.hs t e]
theorem Vd.dup {n : Str} {sh hi : List Str} (v : Vd n sh hi) : dupL (srtL (sh ++ hi)) = none := asc_dup (srtL_asc v.nd)
theorem name_all {z : Str} (h : isName z = true) : (TL.tl z).all (fun c => isLet c || isDig c) = true := by
  unfold isName at h
  cases e : TL.tl z with
  | nil => rfl
  | cons c r => rw [e] at h; simp only [nameL, Bool.and_eq_true] at h; exact h.2.1
theorem full_of_name {z : Str} (h : isName z = true) : isFull z = true := by
  have h46 : 46 ∉ TL.tl z := fun m => by
    have := List.all_eq_true.mp (name_all h) 46 m
    revert this; decide
  have hj := isFull_join (ps := [z]) (by simp) (by simpa using h46)
  have ez : Txt.join "." [z] = z := TL.ext_tl (by rw [join_dot]; simp [TL.joinL])
  rw [ez] at hj
  rw [hj]; simp [h]
theorem Vd.minus {n : Str} {sh hi : List Str} {z : Str} (v : Vd n sh hi) (hz : z ∈ sh) : Vd n ((srtL sh).filter fun t => !decide (t = z)) (srtL hi ++ [z]) := by
  refine ⟨v.hn, fun t ht => v.hs t ((srtL_perm sh).mem_iff.mp (List.mem_filter.mp ht).1), fun t ht => ?_, ?_⟩
  · rcases List.mem_append.mp ht with h | h
    · exact v.hh t ((srtL_perm hi).mem_iff.mp h)
    · rw [List.mem_singleton.mp h]; exact full_of_name (v.hs z hz)
  · have nd := List.nodup_append.mp v.nd
    have n1 : (srtL sh).Nodup := (srtL_perm sh).nodup_iff.mpr nd.1
    have n2 : (srtL hi).Nodup := (srtL_perm hi).nodup_iff.mpr nd.2.1
    refine List.nodup_append.mpr ⟨n1.filter _, List.nodup_append.mpr ⟨n2, by simp, fun a ha b hb e => ?_⟩, fun a ha b hb e => ?_⟩
    · rw [List.mem_singleton.mp hb] at e; subst e
      exact nd.2.2 a hz a ((srtL_perm hi).mem_iff.mp ha) rfl
    · subst e
      obtain ⟨h1, h2⟩ := List.mem_filter.mp ha
      rcases List.mem_append.mp hb with h | h
      · exact nd.2.2 a ((srtL_perm sh).mem_iff.mp h1) a ((srtL_perm hi).mem_iff.mp h) rfl
      · rw [List.mem_singleton.mp h] at h2; simp at h2
theorem Vd.back {n : Str} {sh hi : List Str} {z : Str} (v : Vd n sh hi) (hz : z ∈ hi) (hn : isName z = true) : Vd n (srtL sh ++ [z]) ((srtL hi).filter fun t => !decide (t = z)) := by
  have nd := List.nodup_append.mp v.nd
  have n1 : (srtL sh).Nodup := (srtL_perm sh).nodup_iff.mpr nd.1
  have n2 : (srtL hi).Nodup := (srtL_perm hi).nodup_iff.mpr nd.2.1
  refine ⟨v.hn, fun t ht => ?_, fun t ht => v.hh t ((srtL_perm hi).mem_iff.mp (List.mem_filter.mp ht).1), ?_⟩
  · rcases List.mem_append.mp ht with h | h
    · exact v.hs t ((srtL_perm sh).mem_iff.mp h)
    · rw [List.mem_singleton.mp h]; exact hn
  · refine List.nodup_append.mpr ⟨List.nodup_append.mpr ⟨n1, by simp, fun a ha b hb e => ?_⟩, n2.filter _, fun a ha b hb e => ?_⟩
    · rw [List.mem_singleton.mp hb] at e; subst e
      exact nd.2.2 a ((srtL_perm sh).mem_iff.mp ha) a hz rfl
    · subst e
      obtain ⟨h1, h2⟩ := List.mem_filter.mp hb
      rcases List.mem_append.mp ha with h | h
      · exact nd.2.2 a ((srtL_perm sh).mem_iff.mp h) a ((srtL_perm hi).mem_iff.mp h1) rfl
      · rw [List.mem_singleton.mp h] at h2; simp at h2
theorem Vd.sort {n : Str} {sh hi : List Str} (v : Vd n sh hi) : Vd n (srtL sh) (srtL hi) :=
  ⟨v.hn, fun t ht => v.hs t ((srtL_perm sh).mem_iff.mp ht), fun t ht => v.hh t ((srtL_perm hi).mem_iff.mp ht), (((srtL_perm sh).append (srtL_perm hi)).nodup_iff).mpr v.nd⟩
/-- a part at x, of valid names, not too many -/
structure PartV (C : Addr) (H : Hp) (x : Addr) (w n : Str) (sh hi : List Str) (cvs : List V) : Prop where
  p : PartAt C H x w n sh hi cvs
  v : Vd n sh hi
  l : sh.length + hi.length < 50
  t : ∀ t ∈ sh ++ hi, t.length ≤ 1000
  c : cvs.length ≤ 100
theorem PartAt.kp {A : List Addr} {C : Addr} {H H' : Hp} {x : Addr} {w n : Str} {sh hi : List Str} {cvs : List V} (p : PartAt C H x w n sh hi cvs) (k : Kp A H H') (h : x ∉ A) : PartAt C H' x w n sh hi cvs := by
  obtain ⟨dx, s, h1, c, a, b, d, e⟩ := p.ex
  exact ⟨⟨dx, s, h1, c, k.get a (.inl h), k.get b (.inr rfl), k.get d (.inr rfl), k.get e (.inr rfl)⟩⟩
theorem PartV.kp {A : List Addr} {C : Addr} {H H' : Hp} {x : Addr} {w n : Str} {sh hi : List Str} {cvs : List V} (p : PartV C H x w n sh hi cvs) (k : Kp A H H') (h : x ∉ A) : PartV C H' x w n sh hi cvs := ⟨p.p.kp k h, p.v, p.l, p.t, p.c⟩
theorem PartAt.congr {C : Addr} {H : Hp} {x : Addr} {w n : Str} {sh hi sh' hi' : List Str} {cvs : List V} (p : PartAt C H x w n sh hi cvs) (e1 : sh.Perm sh') (e2 : hi.Perm hi') : PartAt C H x w n sh' hi' cvs := by
  obtain ⟨dx, s, h1, c, a, b, d, e⟩ := p.ex
  exact ⟨⟨dx, s, h1, c, a, by rw [← srtL_congr e1]; exact b, by rw [← srtL_congr e2]; exact d, e⟩⟩
theorem mem_ld (c : Nat) : decide (c ∈ ("abcdefghijklmnopqrstuvwxyz0123456789" : Str).cps.toList) = (isLet c || isDig c) := by
  have e : ("abcdefghijklmnopqrstuvwxyz0123456789" : Str).cps.toList = ("abcdefghijklmnopqrstuvwxyz" : Str).cps.toList ++ ("0123456789" : Str).cps.toList := by decide +kernel
  rw [e, ← mem_let, ← mem_dig, ← Bool.decide_or, decide_eq_decide, List.mem_append]
theorem at_list {xs : List V} {r : Int} (h0 : 0 ≤ r) (h1 : r < xs.length) : ∃ v, v ∈ xs ∧ atI xs r = some v := by
  obtain ⟨n, rfl⟩ := Int.eq_ofNat_of_zero_le h0
  have h : n < xs.length := by omega
  exact ⟨xs[n], List.getElem_mem h, atI_nat (by simp [h])⟩
theorem src_ne {H : Hp} {a l : Addr} (h : Src H a) (n : H l = none) : l ≠ a := fun e => by subst e; obtain ⟨_, _, e⟩ := h; rw [n] at e; cases e
theorem strs_pln (ns : List Str) : pln (.tuple (ns.map .str)) ∧ pln (.list (ns.map .str)) := by
  have h1 : PyData.plainAll (ns.map .str) = true := by
    induction ns with
    | nil => rfl
    | cons x r ih => rw [List.map_cons, PyData.plainAll, ih]; rfl
  have h2 : PyData.depthAll (ns.map .str) ≤ 1 := depth_map fun x _ => by simp [PyData.depth]
  exact ⟨⟨by simp only [PyData.plain]; exact h1, by simp only [PyData.depth]; omega⟩, ⟨by simp only [PyData.plain]; exact h1, by simp only [PyData.depth]; omega⟩⟩
theorem tyx_tup {K : PySem.W.Frag} {H : Hp} {a : Addr} {xs : List V} (h : SqT K H a xs) : TyX K H (.ref a) (.type "tuple") := by
  rcases h with (h | ⟨z, h⟩) | h
  · exact .base (.tup h)
  · exact .fTuple h
  · obtain ⟨o, its, n, h1, h2, _⟩ := h
    exact .kTuple h1 h2
section
variable {A B : List Addr} {K : PySem.W.Frag} {H H' : Hp} {v : V} {d : PyData}
theorem Dv.mv (f : flatT d = true) (k : Kp A H H') (h : Dv B K H v d) : Dv B K H' v d := Dv.any f (Dv.kp k (Dv.any (B := A) f h))
theorem DvAll.mv {vs : List V} {ds : List PyData} (f : flatTs ds = true) (k : Kp A H H') (h : DvAll B K H vs ds) : DvAll B K H' vs ds := DvAll.any f (DvAll.kp k (DvAll.any (B := A) f h))
end
/-- constraints: data of tuples alone, the same wherever they lie -/
structure Cn (K : PySem.W.Frag) (H : Hp) (cvs : List V) (cs : List PyData) : Prop where
  f : flatTs cs = true
  p : PyData.plainAll cs = true
  d : PyData.depthAll cs ≤ 5
  v : DvAll [] K H cvs cs
  l : cvs.length ≤ 60
theorem Cn.kp {A : List Addr} {K : PySem.W.Frag} {H H' : Hp} {cvs : List V} {cs : List PyData} (c : Cn K H cvs cs) (k : Kp A H H') : Cn K H' cvs cs := ⟨c.f, c.p, c.d, DvAll.mv c.f k c.v, c.l⟩
theorem Cn.pl {K : PySem.W.Frag} {H : Hp} {cvs : List V} {cs : List PyData} (c : Cn K H cvs cs) : pln (.list cs) ∧ pln (.tuple cs) :=
  ⟨⟨by simp only [PyData.plain]; exact c.p, by have := c.d; simp only [PyData.depth]; omega⟩, ⟨by simp only [PyData.plain]; exact c.p, by have := c.d; simp only [PyData.depth]; omega⟩⟩
theorem dT {K : PySem.W.Frag} {H : Hp} {a : Addr} {xs : List Str} (h : H a = some (.tup (xs.map V.str))) : Dp K H (.ref a) (.tuple (xs.map .str)) := .tup (SqT.of h) (dv_strs (A := []) xs).dp
theorem eqS (xs : List Str) : PyData.eqv (.tuple (xs.map .str)) (.tuple (xs.map .str)) = true := SeqAt.eqv_refl_plain _ (strs_pln xs).1.1
theorem catA_of {K : PySem.W.Frag} {H : Hp} {a b : Addr} {xs ys : List V} {Q : VK} (ha : SqT K H a xs) (hb : SqT K H b ys) (hz : xs.length + ys.length ≤ sizeLine) (h : ∀ r H', Kp [] H H' → SqT K H' r (xs ++ ys) → Q (.ref r) H') : rCatA K (.ref a) (.ref b) H Q :=
  ⟨a, b, xs, ys, rfl, rfl, ha, hb, hz, fun e => h b H Kp.refl (by rw [e]; exact hb), fun _ e => h a H Kp.refl (by rw [e, List.append_nil]; exact ha), fun _ _ p hp => h p _ (Kp.new hp) (SqT.of upd_same)⟩
theorem two_pln {K : PySem.W.Frag} {H : Hp} {cvs : List V} {cs : List PyData} (c : Cn K H cvs cs) (ys : List Str) : pln (.tuple [.tuple (ys.map .str), .tuple cs]) := by
  have h1 : PyData.depthAll (ys.map .str) ≤ 1 := depth_map fun x _ => by simp [PyData.depth]
  have h2 := (strs_pln ys).1.1
  have h3 := c.pl.2.1
  have h4 := c.d
  refine ⟨?_, ?_⟩
  · simp only [PyData.plain, PyData.plainAll] at h2 h3 ⊢
    simp [h2, h3]
  · simp only [PyData.depth, PyData.depthAll]
    omega
def topS (i : Nat) : Stmt := PySem.Challenge.pw_shadowlinks_k02_parts.main.body.getD i (.Pass ⟨0, 0, 0, 0⟩)
def clsB : Stmt → List Stmt
  | .ClassDef (body := b) .. => b
  | _ => []
def topM (i j : Nat) : Stmt := (clsB (topS i)).getD j (.Pass ⟨0, 0, 0, 0⟩)
abbrev N_InvalidName___init__ : List Str := ["self", "name"]
theorem sc_InvalidName___init__ : FnScope N_InvalidName___init__ ["self", "name"] (defScope (topM 2 0)) := ⟨rfl, rfl, rfl, by decide +kernel, rfl, by decide +kernel, by decide +kernel⟩
abbrev N_InvalidPart___init__ : List Str := ["self", "name"]
theorem sc_InvalidPart___init__ : FnScope N_InvalidPart___init__ ["self", "name"] (defScope (topM 3 0)) := ⟨rfl, rfl, rfl, by decide +kernel, rfl, by decide +kernel, by decide +kernel⟩
abbrev N_Part___init__ : List Str := ["self", "word", "name", "shown", "hidden", "constraints", "text", "every", "k"]
theorem sc_Part___init__ : FnScope N_Part___init__ ["self", "word", "name", "shown", "hidden", "constraints"] (defScope (topM 11 0)) := ⟨rfl, rfl, rfl, by decide +kernel, rfl, by decide +kernel, by decide +kernel⟩
abbrev N_Part_bare : List Str := ["cls", "word", "name"]
theorem sc_Part_bare : FnScope N_Part_bare ["cls", "word", "name"] (defScope (topM 11 1)) := ⟨rfl, rfl, rfl, by decide +kernel, rfl, by decide +kernel, by decide +kernel⟩
abbrev N_Part_names : List Str := ["self"]
theorem sc_Part_names : FnScope N_Part_names ["self"] (defScope (topM 11 2)) := ⟨rfl, rfl, rfl, by decide +kernel, rfl, by decide +kernel, by decide +kernel⟩
abbrev N_Part_theory : List Str := ["self"]
theorem sc_Part_theory : FnScope N_Part_theory ["self"] (defScope (topM 11 3)) := ⟨rfl, rfl, rfl, by decide +kernel, rfl, by decide +kernel, by decide +kernel⟩
abbrev N_Part___len__ : List Str := ["self"]
theorem sc_Part___len__ : FnScope N_Part___len__ ["self"] (defScope (topM 11 4)) := ⟨rfl, rfl, rfl, by decide +kernel, rfl, by decide +kernel, by decide +kernel⟩
abbrev N_Part___iter__ : List Str := ["self"]
theorem sc_Part___iter__ : FnScope N_Part___iter__ ["self"] (defScope (topM 11 5)) := ⟨rfl, rfl, rfl, by decide +kernel, rfl, by decide +kernel, by decide +kernel⟩
abbrev N_Part___contains__ : List Str := ["self", "name"]
theorem sc_Part___contains__ : FnScope N_Part___contains__ ["self", "name"] (defScope (topM 11 6)) := ⟨rfl, rfl, rfl, by decide +kernel, rfl, by decide +kernel, by decide +kernel⟩
abbrev N_Part___sub__ : List Str := ["self", "name", "shown", "other"]
theorem sc_Part___sub__ : FnScope N_Part___sub__ ["self", "name"] (defScope (topM 11 7)) := ⟨rfl, rfl, rfl, by decide +kernel, rfl, by decide +kernel, by decide +kernel⟩
abbrev N_Part_reveal : List Str := ["self", "name", "hidden", "other"]
theorem sc_Part_reveal : FnScope N_Part_reveal ["self", "name"] (defScope (topM 11 8)) := ⟨rfl, rfl, rfl, by decide +kernel, rfl, by decide +kernel, by decide +kernel⟩
abbrev N_Part_with_constraints : List Str := ["self", "constraints"]
theorem sc_Part_with_constraints : FnScope N_Part_with_constraints ["self", "constraints"] (defScope (topM 11 9)) := ⟨rfl, rfl, rfl, by decide +kernel, rfl, by decide +kernel, by decide +kernel⟩
abbrev N_Part_called : List Str := ["self", "name"]
theorem sc_Part_called : FnScope N_Part_called ["self", "name"] (defScope (topM 11 10)) := ⟨rfl, rfl, rfl, by decide +kernel, rfl, by decide +kernel, by decide +kernel⟩
abbrev N_is_name : List Str := ["text", "char"]
theorem sc_is_name : FnScope N_is_name ["text"] (defScope (topS 7)) := ⟨rfl, rfl, rfl, by decide +kernel, rfl, by decide +kernel, by decide +kernel⟩
abbrev N_is_full_name : List Str := ["text", "piece"]
theorem sc_is_full_name : FnScope N_is_full_name ["text"] (defScope (topS 8)) := ⟨rfl, rfl, rfl, by decide +kernel, rfl, by decide +kernel, by decide +kernel⟩
abbrev N_merge_names : List Str := ["lists", "found", "names", "name"]
theorem sc_merge_names : FnScope N_merge_names ["lists"] (defScope (topS 9)) := ⟨rfl, rfl, rfl, by decide +kernel, rfl, by decide +kernel, by decide +kernel⟩
abbrev N__law_source : List Str := ["_law_script", "_law_k", "_law_number"]
theorem sc__law_source : FnScope N__law_source ["_law_script", "_law_k"] (defScope (topS 13)) := ⟨rfl, rfl, rfl, by decide +kernel, rfl, by decide +kernel, by decide +kernel⟩
abbrev N__law_draw : List Str := ["_law_source_here", "_law_limit", "_law_number", "_law_mixed"]
theorem sc__law_draw : FnScope N__law_draw ["_law_source_here", "_law_limit"] (defScope (topS 14)) := ⟨rfl, rfl, rfl, by decide +kernel, rfl, by decide +kernel, by decide +kernel⟩
abbrev N__law_plain : List Str := ["_law_source_here"]
theorem sc__law_plain : FnScope N__law_plain ["_law_source_here"] (defScope (topS 15)) := ⟨rfl, rfl, rfl, by decide +kernel, rfl, by decide +kernel, by decide +kernel⟩
abbrev N__law_names : List Str := ["_law_source_here", "_law_dotted", "_law_names_here", "_law_k", "_law_name", "_law_bad"]
theorem sc__law_names : FnScope N__law_names ["_law_source_here", "_law_dotted"] (defScope (topS 16)) := ⟨rfl, rfl, rfl, by decide +kernel, rfl, by decide +kernel, by decide +kernel⟩
abbrev N__law_is_name : List Str := ["_law_text", "_law_char"]
theorem sc__law_is_name : FnScope N__law_is_name ["_law_text"] (defScope (topS 17)) := ⟨rfl, rfl, rfl, by decide +kernel, rfl, by decide +kernel, by decide +kernel⟩
abbrev N__law_is_full : List Str := ["_law_text", "_law_piece"]
theorem sc__law_is_full : FnScope N__law_is_full ["_law_text"] (defScope (topS 18)) := ⟨rfl, rfl, rfl, by decide +kernel, rfl, by decide +kernel, by decide +kernel⟩
abbrev N__law_expected_error : List Str := ["_law_name", "_law_shown", "_law_hidden", "_law_text", "_law_every", "_law_k"]
theorem sc__law_expected_error : FnScope N__law_expected_error ["_law_name", "_law_shown", "_law_hidden"] (defScope (topS 19)) := ⟨rfl, rfl, rfl, by decide +kernel, rfl, by decide +kernel, by decide +kernel⟩
abbrev N__law_raised : List Str := ["_law_name", "_law_shown", "_law_hidden", "e"]
theorem sc__law_raised : FnScope N__law_raised ["_law_name", "_law_shown", "_law_hidden"] (defScope (topS 20)) := ⟨rfl, rfl, rfl, by decide +kernel, rfl, by decide +kernel, by decide +kernel⟩
abbrev N__law_shows : List Str := ["_law_part", "_law_shown", "_law_hidden", "_law_constraints", "_law_names_here", "_law_name", "_law_constraint"]
theorem sc__law_shows : FnScope N__law_shows ["_law_part", "_law_shown", "_law_hidden", "_law_constraints"] (defScope (topS 21)) := ⟨rfl, rfl, rfl, by decide +kernel, rfl, by decide +kernel, by decide +kernel⟩
abbrev N__law_hides : List Str := ["_law_part", "_law_name", "e"]
theorem sc__law_hides : FnScope N__law_hides ["_law_part", "_law_name"] (defScope (topS 22)) := ⟨rfl, rfl, rfl, by decide +kernel, rfl, by decide +kernel, by decide +kernel⟩
abbrev N__law_reveals : List Str := ["_law_part", "_law_name", "e"]
theorem sc__law_reveals : FnScope N__law_reveals ["_law_part", "_law_name"] (defScope (topS 23)) := ⟨rfl, rfl, rfl, by decide +kernel, rfl, by decide +kernel, by decide +kernel⟩
abbrev N__law_moves_right : List Str := ["_law_part", "_law_name", "_law_shown", "_law_hidden", "_law_constraints", "_law_other", "_law_n"]
theorem sc__law_moves_right : FnScope N__law_moves_right ["_law_part", "_law_name", "_law_shown", "_law_hidden", "_law_constraints"] (defScope (topS 24)) := ⟨rfl, rfl, rfl, by decide +kernel, rfl, by decide +kernel, by decide +kernel⟩
abbrev N__law_others_right : List Str := ["_law_part", "_law_shown", "_law_hidden", "_law_constraints", "_law_revised", "_law_again", "_law_bare", "e"]
theorem sc__law_others_right : FnScope N__law_others_right ["_law_part", "_law_shown", "_law_hidden", "_law_constraints"] (defScope (topS 25)) := ⟨rfl, rfl, rfl, by decide +kernel, rfl, by decide +kernel, by decide +kernel⟩
abbrev N_law : List Str := ["_law_script", "_law_source_here", "_law_name", "_law_shown", "_law_hidden", "_law_k", "_law_constraints", "_law_expected", "_law_passed", "_law_part", "_law_other"]
theorem sc_law : FnScope N_law ["_law_script"] (defScope (topS 26)) := ⟨rfl, rfl, rfl, by decide +kernel, rfl, by decide +kernel, by decide +kernel⟩
structure Txt (K : PySem.W.Frag) (mg : Str → Option Value) (A : Nat → Addr) (D : Nat → FuncData) : Prop where
  g_ShadowError : mg "ShadowError" = some (.ref (A 1))
  g_InvalidName : mg "InvalidName" = some (.ref (A 2))
  E_InvalidName : ErrK K mg "InvalidName" "name" (A 2) (A 1040) "InvalidName.__init__" (topM 2 0) (D 1040)
  x_InvalidName_ShadowError : PySem.W.exmOne K (.ref (A 2)) (.ref (A 1)) = some true
  k_InvalidName_ShadowError : PySem.W.kitOne K (.ref (A 2)) (.ref (A 1)) = some true
  x_InvalidName_InvalidName : PySem.W.exmOne K (.ref (A 2)) (.ref (A 2)) = some true
  k_InvalidName_InvalidName : PySem.W.kitOne K (.ref (A 2)) (.ref (A 2)) = some true
  x_InvalidName_InvalidPart : PySem.W.exmOne K (.ref (A 2)) (.ref (A 3)) = some false
  k_InvalidName_InvalidPart : PySem.W.kitOne K (.ref (A 2)) (.ref (A 3)) = some false
  kv_InvalidName : PySem.W.kitOne K (.ref (A 2)) (.type "ValueError") = some true
  S_InvalidName : SeI K (A 1) (.type "type")
  g_InvalidPart : mg "InvalidPart" = some (.ref (A 3))
  E_InvalidPart : ErrK K mg "InvalidPart" "name" (A 3) (A 1060) "InvalidPart.__init__" (topM 3 0) (D 1060)
  x_InvalidPart_ShadowError : PySem.W.exmOne K (.ref (A 3)) (.ref (A 1)) = some true
  k_InvalidPart_ShadowError : PySem.W.kitOne K (.ref (A 3)) (.ref (A 1)) = some true
  x_InvalidPart_InvalidName : PySem.W.exmOne K (.ref (A 3)) (.ref (A 2)) = some false
  k_InvalidPart_InvalidName : PySem.W.kitOne K (.ref (A 3)) (.ref (A 2)) = some false
  x_InvalidPart_InvalidPart : PySem.W.exmOne K (.ref (A 3)) (.ref (A 3)) = some true
  k_InvalidPart_InvalidPart : PySem.W.kitOne K (.ref (A 3)) (.ref (A 3)) = some true
  kv_InvalidPart : PySem.W.kitOne K (.ref (A 3)) (.type "ValueError") = some true
  S_InvalidPart : SeI K (A 1) (.type "type")
  g_Part : mg "Part" = some (.ref (A 11))
  cl_Part : Cls K (A 11)
  cr_Part : ClX.CRead K (A 11) (.type "type")
  sf_Part : PySem.W.selfFirst K (A 11) = true
  n_Part_word : NoAttr K (A 11) "word"
  n_Part_name : NoAttr K (A 11) "name"
  n_Part_shown : NoAttr K (A 11) "shown"
  n_Part_hidden : NoAttr K (A 11) "hidden"
  n_Part_constraints : NoAttr K (A 11) "constraints"
  mk_Part : Mk K (A 11) (A 1220)
  F_Part___init__ : Fun K "__init__" "Part.__init__" (topM 11 0) (A 1220) (D 1220)
  b_Part___init__ : Binds K (D 1220) ["self", "word", "name", "shown", "hidden", "constraints"] []
  M_Part___init__ : Meth K (A 11) "__init__" (A 1220)
  F_Part_bare : Fun K "bare" "Part.bare" (topM 11 1) (A 1221) (D 1221)
  b_Part_bare : Binds K (D 1221) ["cls", "word", "name"] []
  C_Part_bare : ClX.CMet K (A 11) (.type "type") "bare" (A 6221) (A 1221)
  F_Part_names : Fun K "names" "Part.names" (topM 11 2) (A 1222) (D 1222)
  b_Part_names : Binds K (D 1222) ["self"] []
  P_Part_names : PropOf K (A 11) "names" (A 6222) (A 1222)
  F_Part_theory : Fun K "theory" "Part.theory" (topM 11 3) (A 1223) (D 1223)
  b_Part_theory : Binds K (D 1223) ["self"] []
  P_Part_theory : PropOf K (A 11) "theory" (A 6223) (A 1223)
  F_Part___len__ : Fun K "__len__" "Part.__len__" (topM 11 4) (A 1224) (D 1224)
  b_Part___len__ : Binds K (D 1224) ["self"] []
  M_Part___len__ : Meth K (A 11) "__len__" (A 1224)
  F_Part___iter__ : Fun K "__iter__" "Part.__iter__" (topM 11 5) (A 1225) (D 1225)
  b_Part___iter__ : Binds K (D 1225) ["self"] []
  M_Part___iter__ : Meth K (A 11) "__iter__" (A 1225)
  F_Part___contains__ : Fun K "__contains__" "Part.__contains__" (topM 11 6) (A 1226) (D 1226)
  b_Part___contains__ : Binds K (D 1226) ["self", "name"] []
  M_Part___contains__ : Meth K (A 11) "__contains__" (A 1226)
  F_Part___sub__ : Fun K "__sub__" "Part.__sub__" (topM 11 7) (A 1227) (D 1227)
  b_Part___sub__ : Binds K (D 1227) ["self", "name"] []
  M_Part___sub__ : Meth K (A 11) (PySem.dunder (Operator.Sub).info.2) (A 1227)
  F_Part_reveal : Fun K "reveal" "Part.reveal" (topM 11 8) (A 1228) (D 1228)
  b_Part_reveal : Binds K (D 1228) ["self", "name"] []
  M_Part_reveal : Meth K (A 11) "reveal" (A 1228)
  F_Part_with_constraints : Fun K "with_constraints" "Part.with_constraints" (topM 11 9) (A 1229) (D 1229)
  b_Part_with_constraints : Binds K (D 1229) ["self", "constraints"] []
  M_Part_with_constraints : Meth K (A 11) "with_constraints" (A 1229)
  F_Part_called : Fun K "called" "Part.called" (topM 11 10) (A 1230) (D 1230)
  b_Part_called : Binds K (D 1230) ["self", "name"] []
  M_Part_called : Meth K (A 11) "called" (A 1230)
  B_Part_Sub_str : BinT K (A 11) (Operator.Sub) "str"
  F_is_name : Fun K "is_name" "is_name" (topS 7) (A 7) (D 7)
  g_is_name : mg "is_name" = some (.ref (A 7))
  b_is_name : Binds K (D 7) ["text"] []
  F_is_full_name : Fun K "is_full_name" "is_full_name" (topS 8) (A 8) (D 8)
  g_is_full_name : mg "is_full_name" = some (.ref (A 8))
  b_is_full_name : Binds K (D 8) ["text"] []
  F_merge_names : Fun K "merge_names" "merge_names" (topS 9) (A 9) (D 9)
  g_merge_names : mg "merge_names" = some (.ref (A 9))
  F__law_source : Fun K "_law_source" "_law_source" (topS 13) (A 13) (D 13)
  g__law_source : mg "_law_source" = some (.ref (A 13))
  b__law_source : Binds K (D 13) ["_law_script", "_law_k"] []
  F__law_draw : Fun K "_law_draw" "_law_draw" (topS 14) (A 14) (D 14)
  g__law_draw : mg "_law_draw" = some (.ref (A 14))
  b__law_draw : Binds K (D 14) ["_law_source_here", "_law_limit"] []
  F__law_plain : Fun K "_law_plain" "_law_plain" (topS 15) (A 15) (D 15)
  g__law_plain : mg "_law_plain" = some (.ref (A 15))
  b__law_plain : Binds K (D 15) ["_law_source_here"] []
  F__law_names : Fun K "_law_names" "_law_names" (topS 16) (A 16) (D 16)
  g__law_names : mg "_law_names" = some (.ref (A 16))
  b__law_names : Binds K (D 16) ["_law_source_here", "_law_dotted"] []
  F__law_is_name : Fun K "_law_is_name" "_law_is_name" (topS 17) (A 17) (D 17)
  g__law_is_name : mg "_law_is_name" = some (.ref (A 17))
  b__law_is_name : Binds K (D 17) ["_law_text"] []
  F__law_is_full : Fun K "_law_is_full" "_law_is_full" (topS 18) (A 18) (D 18)
  g__law_is_full : mg "_law_is_full" = some (.ref (A 18))
  b__law_is_full : Binds K (D 18) ["_law_text"] []
  F__law_expected_error : Fun K "_law_expected_error" "_law_expected_error" (topS 19) (A 19) (D 19)
  g__law_expected_error : mg "_law_expected_error" = some (.ref (A 19))
  b__law_expected_error : Binds K (D 19) ["_law_name", "_law_shown", "_law_hidden"] []
  F__law_raised : Fun K "_law_raised" "_law_raised" (topS 20) (A 20) (D 20)
  g__law_raised : mg "_law_raised" = some (.ref (A 20))
  b__law_raised : Binds K (D 20) ["_law_name", "_law_shown", "_law_hidden"] []
  F__law_shows : Fun K "_law_shows" "_law_shows" (topS 21) (A 21) (D 21)
  g__law_shows : mg "_law_shows" = some (.ref (A 21))
  b__law_shows : Binds K (D 21) ["_law_part", "_law_shown", "_law_hidden", "_law_constraints"] []
  F__law_hides : Fun K "_law_hides" "_law_hides" (topS 22) (A 22) (D 22)
  g__law_hides : mg "_law_hides" = some (.ref (A 22))
  b__law_hides : Binds K (D 22) ["_law_part", "_law_name"] []
  F__law_reveals : Fun K "_law_reveals" "_law_reveals" (topS 23) (A 23) (D 23)
  g__law_reveals : mg "_law_reveals" = some (.ref (A 23))
  b__law_reveals : Binds K (D 23) ["_law_part", "_law_name"] []
  F__law_moves_right : Fun K "_law_moves_right" "_law_moves_right" (topS 24) (A 24) (D 24)
  g__law_moves_right : mg "_law_moves_right" = some (.ref (A 24))
  b__law_moves_right : Binds K (D 24) ["_law_part", "_law_name", "_law_shown", "_law_hidden", "_law_constraints"] []
  F__law_others_right : Fun K "_law_others_right" "_law_others_right" (topS 25) (A 25) (D 25)
  g__law_others_right : mg "_law_others_right" = some (.ref (A 25))
  b__law_others_right : Binds K (D 25) ["_law_part", "_law_shown", "_law_hidden", "_law_constraints"] []
  F_law : Fun K "law" "law" (topS 26) (A 26) (D 26)
  g_law : mg "law" = some (.ref (A 26))
  b_law : Binds K (D 26) ["_law_script"] []
  z_len : mg "len" = none
  z_int : mg "int" = none
  z_list : mg "list" = none
  z_tuple : mg "tuple" = none
  z_range : mg "range" = none
  z_sorted : mg "sorted" = none
  z_isinstance : mg "isinstance" = none
  z_iter : mg "iter" = none
  z_ValueError : mg "ValueError" = none
  c_LETTERS : ∃ t, mg "LETTERS" = some (.str "abcdefghijklmnopqrstuvwxyz" t)
  c_DIGITS : ∃ t, mg "DIGITS" = some (.str "0123456789" t)
section
variable {P : Program} {w : World} {K : PySem.W.Frag} {mg : Str → Option Value} {base : Heap} {A : Nat → Addr} {D : Nat → FuncData}
def sp__law_source (K : PySem.W.Frag) : Sp := fun vs H Q _ => ∃ (a : Addr) (ns : List Int) (k : Nat), vs = [.ref a, .int (k : Int)] ∧ SqL K H a (ns.map V.int) ∧ ns.length ≤ 63 ∧
  ∀ p H', H p = none → Kp [] H H' → Src H' p → Q (.ref p) H'
theorem ok__law_source (T : Txt K mg A D) : FnOk P w K mg base CX0 1 (A 13) (D 13) ["_law_script", "_law_k"] (sp__law_source K) := by
  refine T.F__law_source.ok sc__law_source (fun vs H Q E h => ?_) (fun cdv A' outer s H vs Q E hr h => ?_)
  · obtain ⟨a, ns, k, rfl, hS, hl, q⟩ := h
    rfl
  · obtain ⟨a, ns, k, rfl, hS, hl, q⟩ := h
    have hu := hu_of hr
    refine ⟨_, (pss_cons (ps_set (i := 2) sc__law_source.nd rfl (Or.inl rfl) pe_int)
      (pss_cons (ps_if (pt_cmpR op_lt (pv 1) (pe_callB (id := "len") (cK_len (K := K) rfl) (by rfl) T.z_len (by decide +kernel) (pa_cons (pv 0) pa_nil)) (nomark _))
        (pss_one (ps_set (i := 2) sc__law_source.nd rfl (Or.inl rfl) (pe_callTy (T := "int") call_int1 (by rfl) T.z_int (by decide +kernel) (pa_cons (pe_ix (xK_list (K := K) rfl) (pv 0) (pv 1) (fun _ _ => rfl)) pa_nil))))
        pss_nil)
      (pss_one (ps_ret (pe_lst (pa_cons (pv 2) (pa_cons (pe_op op_add (pe_op op_mul pe_int (pv 1)) (pe_callB (id := "len") (cK_len (K := K) rfl) (by rfl) T.z_len (by decide +kernel) (pa_cons (pv 0) pa_nil))) pa_nil))))))), ?_⟩
    -- _law_number = 0; if _law_k < len(_law_script)
    refine ⟨_, rfl, _, rfl, _, ns.length, rfl, .inl ⟨_, hS, by rw [List.length_map]⟩, _, _, rfl, rfl, _, rfl, ?_⟩
    refine ite2 (fun c => ?_) (fun c => ?_)
    · have hk : k < ns.length := by simpa using c
      refine ⟨_, rfl, _, rfl, _, _, _, .int ns[k], rfl, rfl, hS, atI_nat (by simp [hk]), .inl ⟨_, rfl, ?_⟩⟩
      refine ⟨_, rfl, _, rfl, _, _, rfl, rfl, .inl ⟨by decide, by decide⟩, _, rfl, _, ns.length, rfl, .inl ⟨_, hS, by rw [List.length_map]⟩, _, _, rfl, rfl, sz (by simp), fun p hp => ?_⟩
      exact q p _ hp (Kp.new hp) ⟨_, _, upd_same⟩
    · refine ⟨_, rfl, _, rfl, _, _, rfl, rfl, .inl ⟨by decide, by decide⟩, _, rfl, _, ns.length, rfl, .inl ⟨_, hS, by rw [List.length_map]⟩, _, _, rfl, rfl, sz (by simp), fun p hp => ?_⟩
      exact q p _ hp (Kp.new hp) ⟨_, _, upd_same⟩
def sp__law_draw (K : PySem.W.Frag) : Sp := fun vs H Q _ => ∃ (a : Addr) (lim : Int), vs = [.ref a, .int lim] ∧ Src H a ∧ 0 < lim ∧ lim < 1073741824 ∧
  ∀ (r : Int) H', 0 ≤ r → r < lim → Kp [a] H H' → Src H' a → Q (.int r) H'
theorem ok__law_draw (T : Txt K mg A D) : FnOk P w K mg base CX0 1 (A 14) (D 14) ["_law_source_here", "_law_limit"] (sp__law_draw K) := by
  refine T.F__law_draw.ok sc__law_draw (fun vs H Q E h => ?_) (fun cdv A' outer s H vs Q E hr h => ?_)
  · obtain ⟨a, lim, rfl, ⟨n, c, hs⟩, h0, h1, q⟩ := h
    rfl
  · obtain ⟨a, lim, rfl, ⟨n, c, hs⟩, h0, h1, q⟩ := h
    have hu := hu_of hr
    refine ⟨_, (pss_cons (ps_set (i := 2) sc__law_draw.nd rfl (Or.inl rfl) (pe_ix (xK_list (K := K) rfl) (pv 0) pe_int (fun _ _ => rfl)))
      (pss_cons (ps_if (pt_cmpR op_ge (pv 2) (pe_op op_pow pe_int pe_int) (nomark _))
        (pss_cons (ps_asg (pe_op op_fdiv (pv 2) (pv 1)) (pg_sub (pv 0) pe_int set_list))
        (pss_one (ps_ret (pe_op op_mod (pe_callTy (T := "int") call_int1 (by rfl) T.z_int (by decide +kernel) (pa_cons (pv 2) pa_nil)) (pv 1)))))
        pss_nil)
      (pss_cons (ps_asg (pe_op op_add (pe_ix (xK_list (K := K) rfl) (pv 0) pe_int (fun _ _ => rfl)) pe_int) (pg_sub (pv 0) pe_int set_list))
      (pss_cons (ps_set (i := 3) sc__law_draw.nd rfl (Or.inl rfl) (pe_op op_mod (pe_callTy (T := "int") call_int1 (by rfl) T.z_int (by decide +kernel) (pa_cons (pe_op op_add (pe_op op_add (pe_op op_mul (pv 2) pe_int) (pe_op op_mul (pe_ix (xK_list (K := K) rfl) (pv 0) pe_int (fun _ _ => rfl)) pe_int)) pe_int) pa_nil)) pe_int))
      (pss_cons (ps_set (i := 3) sc__law_draw.nd rfl (Or.inl rfl) (pe_op op_mod (pe_callTy (T := "int") call_int1 (by rfl) T.z_int (by decide +kernel) (pa_cons (pe_op op_add (pe_op op_add (pe_op op_mul (pv 3) (pv 3)) (pv 2)) (pe_op op_mul (pe_ix (xK_list (K := K) rfl) (pv 0) pe_int (fun _ _ => rfl)) pe_int)) pa_nil)) pe_int))
      (pss_cons (ps_set (i := 3) sc__law_draw.nd rfl (Or.inl rfl) (pe_op op_mod (pe_callTy (T := "int") call_int1 (by rfl) T.z_int (by decide +kernel) (pa_cons (pe_op op_add (pe_op op_add (pe_op op_mul (pv 3) (pv 3)) (pe_op op_fdiv (pv 3) pe_int)) pe_int) pa_nil)) pe_int))
      (pss_one (ps_ret (pe_op op_mod (pe_op op_fdiv (pe_callTy (T := "int") call_int1 (by rfl) T.z_int (by decide +kernel) (pa_cons (pv 3) pa_nil)) pe_int) (pv 1)))))))))), ?_⟩
    walk_at "rds"
    refine ⟨⟨by decide, by decide, by decide⟩, ?_⟩
    walk_at "rds"
    have kp : ∀ o, Kp [a] H (upd H a o) := fun o => Kp.own hs rfl (by simp)
    refine ite2 (fun _ => ?_) (fun _ => ?_)
    · refine ⟨_, rfl, _, rfl, _, _, rfl, rfl, ⟨h0, h1⟩, _, rfl, a, _, _, 0, rfl, rfl, hs, rfl, ?_⟩
      refine ⟨_, rfl, .inl ⟨_, rfl, _, rfl, _, _, rfl, rfl, h0, ?_⟩⟩
      exact q _ _ (Int.emod_nonneg _ (by omega)) (Int.emod_lt_of_pos _ h0) (kp _) ⟨_, _, upd_same⟩
    · have e1 : SqL K H a [.int n, .int c] := SqL.of hs
      refine ⟨_, rfl, _, _, _, _, rfl, rfl, e1, rfl, _, _, rfl, rfl, _, rfl, a, _, _, 1, rfl, rfl, hs, rfl, ?_⟩
      have e2 : SqL K (upd H a (.lst [.int n, .int (c + 1)])) a [.int n, .int (c + 1)] := SqL.of upd_same
      refine ⟨_, rfl, _, _, rfl, rfl, .inr ⟨by decide, by decide⟩, _, rfl, _, _, _, _, rfl, rfl, e2, rfl, _, _, rfl, rfl, .inr ⟨by decide, by decide⟩, _, _, rfl, rfl, _, _, rfl, rfl, .inl ⟨_, rfl, _, _, rfl, rfl, (by show (0 : Int) < _; decide), ?_⟩⟩
      refine ⟨_, rfl, _, rfl, _, _, rfl, rfl, .inl ⟨by omega, by omega⟩, _, rfl, _, _, rfl, rfl, _, rfl, _, _, _, _, rfl, rfl, e2, rfl, _, _, rfl, rfl, .inr ⟨by decide, by decide⟩, _, _, rfl, rfl, .inl ⟨_, rfl, _, _, rfl, rfl, (by show (0 : Int) < _; decide), ?_⟩⟩
      refine ⟨_, rfl, _, rfl, _, _, rfl, rfl, .inl ⟨by omega, by omega⟩, _, rfl, _, _, rfl, rfl, ⟨by decide, by decide⟩, _, _, rfl, rfl, _, _, rfl, rfl, .inl ⟨_, rfl, _, _, rfl, rfl, (by show (0 : Int) < _; decide), ?_⟩⟩
      refine ⟨_, rfl, .inl ⟨_, rfl, _, _, rfl, rfl, ⟨by decide, by decide⟩, _, rfl, _, _, rfl, rfl, h0, ?_⟩⟩
      exact q _ _ (Int.emod_nonneg _ (by omega)) (Int.emod_lt_of_pos _ h0) (kp _) ⟨_, _, upd_same⟩
theorem ok_InvalidName__init (T : Txt K mg A D) : FnOk P w K mg base CX0 1 (A 1040) (D 1040) ["self", "name"] (sp_err (A 2) "name") := by
  refine T.E_InvalidName.F.ok sc_InvalidName___init__ (fun vs H Q E h => ?_) (fun cdv A' outer s H vs Q E hr h => ?_)
  · obtain ⟨a, v, rfl, _⟩ := h
    rfl
  · obtain ⟨a, v, rfl, ha, q⟩ := h
    refine ⟨_, (pss_cons (ps_expr (pe_seinit T.S_InvalidName rfl T.g_ShadowError (pa_cons (pv 0) (pa_cons pe_str pa_nil)))) (pss_one (ps_ost (pv 0) (pv 1)))), ?_⟩
    refine ⟨_, rfl, a, _, _, rfl, by simp, T.E_InvalidName.oex, ha, ?_⟩
    exact ⟨_, rfl, _, rfl, a, _, rfl, T.E_InvalidName.oex, T.E_InvalidName.no, .inl ⟨ha, fun dx hdx ne => q dx hdx ne⟩⟩
theorem ok_InvalidPart__init (T : Txt K mg A D) : FnOk P w K mg base CX0 1 (A 1060) (D 1060) ["self", "name"] (sp_err (A 3) "name") := by
  refine T.E_InvalidPart.F.ok sc_InvalidPart___init__ (fun vs H Q E h => ?_) (fun cdv A' outer s H vs Q E hr h => ?_)
  · obtain ⟨a, v, rfl, _⟩ := h
    rfl
  · obtain ⟨a, v, rfl, ha, q⟩ := h
    refine ⟨_, (pss_cons (ps_expr (pe_seinit T.S_InvalidPart rfl T.g_ShadowError (pa_cons (pv 0) (pa_cons pe_str pa_nil)))) (pss_one (ps_ost (pv 0) (pv 1)))), ?_⟩
    refine ⟨_, rfl, a, _, _, rfl, by simp, T.E_InvalidPart.oex, ha, ?_⟩
    exact ⟨_, rfl, _, rfl, a, _, rfl, T.E_InvalidPart.oex, T.E_InvalidPart.no, .inl ⟨ha, fun dx hdx ne => q dx hdx ne⟩⟩
def sp_is_name (K : PySem.W.Frag) : Sp := fun vs H Q _ => ∃ (s : Str), vs = [.str s] ∧ s.length ≤ 100000 ∧ Q (.bl (isName s)) H
theorem ok_is_name (T : Txt K mg A D) : FnOk P w K mg base CX0 1 (A 7) (D 7) ["text"] (sp_is_name K) := by
  refine T.F_is_name.ok sc_is_name (fun vs H Q E h => ?_) (fun cdv A' outer s H vs Q E hr h => ?_)
  · obtain ⟨s, rfl, hs, q⟩ := h
    rfl
  · obtain ⟨s, rfl, hs, q⟩ := h
    have hu := hu_of hr
    refine ⟨_, (pss_cons (ps_if (PW.pt (pw_or (pt_not (pt_chain op_le op_le pe_int (pe_callB (id := "len") call_len_str (by rfl) T.z_len (by decide +kernel) (pa_cons (pv 0) pa_nil)) pe_int)) (pw_or1 (pt_cmpR op_notIn_sign (pe_ix ix_str (pv 0) pe_int (fun _ _ => rfl)) (pe_glob (v := .str "abcdefghijklmnopqrstuvwxyz") rfl T.c_LETTERS.choose_spec ⟨_, rfl⟩) rfl))))
        (pss_one (ps_ret pe_bl))
        pss_nil)
      (pss_cons (ps_for PassesOwn.never rfl (pi_str (pv 0)) (pg_name (i := 1) sc_is_name.nd rfl (Or.inl rfl))
        (pss_one (ps_if (PW.pt (pw_and (pt_cmpR op_notIn_sign (pv 1) (pe_glob (v := .str "abcdefghijklmnopqrstuvwxyz") rfl T.c_LETTERS.choose_spec ⟨_, rfl⟩) rfl) (pw_and1 (pt_cmpR op_notIn_sign (pv 1) (pe_glob (v := .str "0123456789") rfl T.c_DIGITS.choose_spec ⟨_, rfl⟩) rfl))))
          (pss_one (ps_ret pe_bl))
          pss_nil)))
      (pss_one (ps_ret pe_bl)))), ?_⟩
    refine ⟨_, rfl, _, rfl, sz hs, _, _, rfl, rfl, _, rfl, ?_⟩
    refine ite2 (fun c1 => ?_) (fun c1 => ?_)
    · refine ⟨_, _, rfl, rfl, _, rfl, ?_⟩
      refine ite2 (fun c2 => ?_) (fun c2 => ?_)
      · refine iteT ?_
        exact asB q (isName_no fun z => by simp at c2; omega)
      · have l8 : s.length ≤ 8 := by simp at c2; omega
        have l1 : 0 < s.length := by simp at c1; omega
        obtain ⟨c, hc, ha⟩ := atS l1
        refine ⟨_, rfl, _, _, c, rfl, rfl, sz hs, ha, _, _, rfl, rfl, _, rfl, ?_⟩
        refine ite2 (fun c3 => ?_) (fun c3 => ?_)
        · refine asB q ?_
          rw [isName_at hc l8, ← mem_let]
          simp only [Bool.not_eq_true'] at c3
          rw [c3]; rfl
        · rw [isName_at hc l8, ← mem_let] at q
          simp only [Bool.not_eq_true', Bool.not_eq_false] at c3
          rw [c3, Bool.true_and] at q
          refine ⟨_, rfl, _, rfl, for_it walk_str (fun i σ H' => H' = H ∧ (∃ v, σ = [some (.str s), v]) ∧ ∀ j c, j < i → s.cps[j]? = some c → (isLet c || isDig c) = true) ⟨rfl, ⟨_, rfl⟩, fun j c z => by omega⟩ (fun _ _ _ _ _ => trivial) ?_ ?_⟩
          · rintro i x σ H1 H2 hi ⟨rfl, ⟨v, rfl⟩, hall⟩ ⟨rfl, d, hd, rfl⟩
            refine ⟨_, rfl, _, _, rfl, rfl, _, rfl, ?_⟩
            rw [mem_let]
            have next : (isLet d || isDig d) = true → ∀ j c, j < i + 1 → s.cps[j]? = some c → (isLet c || isDig c) = true := fun hd' j c hj e => by
              rcases Nat.lt_succ_iff_lt_or_eq.mp hj with z | z
              · exact hall j c z e
              · subst z
                rw [hd] at e; cases e
                exact hd'
            refine ite2 (fun c4 => ?_) (fun c4 => ?_)
            · refine ⟨_, rfl, _, _, rfl, rfl, _, rfl, ?_⟩
              rw [mem_dig]
              simp only [Bool.not_eq_true'] at c4
              refine ite2 (fun c5 => ?_) (fun c5 => ?_)
              · simp only [Bool.not_eq_true'] at c5
                exact asB q (all_false hd (by rw [c4, c5]; rfl))
              · simp only [Bool.not_eq_true', Bool.not_eq_false] at c5
                exact ⟨rfl, ⟨_, rfl⟩, next (by rw [c5]; simp)⟩
            · simp only [Bool.not_eq_true', Bool.not_eq_false] at c4
              exact ⟨rfl, ⟨_, rfl⟩, next (by rw [c4]; rfl)⟩
          · rintro σ H1 ⟨rfl, ⟨v, rfl⟩, hall⟩
            exact asB q (all_true fun j c e => hall j c (by
              have := (Array.getElem?_eq_some_iff.mp e).1
              exact this) e)
    · refine ⟨_, rfl, ?_⟩
      refine iteT ?_
      exact asB q (isName_no fun z => by simp at c1; omega)
def sp_is_full_name (K : PySem.W.Frag) : Sp := fun vs H Q _ => ∃ (s : Str), vs = [.str s] ∧ s.length ≤ 100000 ∧ ∀ H', Kp [] H H' → Q (.bl (isFull s)) H'
theorem ok_is_full_name (T : Txt K mg A D) : FnOk P w K mg base CX0 2 (A 8) (D 8) ["text"] (sp_is_full_name K) := by
  refine T.F_is_full_name.ok sc_is_full_name (fun vs H Q E h => ?_) (fun cdv A' outer s H vs Q E hr h => ?_)
  · obtain ⟨s, rfl, hs, q⟩ := h
    rfl
  · obtain ⟨s, rfl, hs, q⟩ := h
    have hu := hu_of hr
    have G_is_name : FnOk P w K mg base CX0 1 (A 7) (D 7) ["text"] (sp_is_name K) := ok_is_name T
    refine ⟨_, (pss_cons (ps_for PassesOwn.never rfl (iK_list (K := K) rfl (pe_split (pv 0) pe_str)) (pg_name (i := 1) sc_is_full_name.nd rfl (Or.inl rfl))
        (pss_one (ps_if (pt_not (pt_val (pe_call G_is_name (hr.mono (by decide)) rfl T.g_is_name T.F_is_name.kp T.b_is_name .nil pass0 (pa_cons (pv 1) pa_nil))))
          (pss_one (ps_ret pe_bl))
          pss_nil)))
      (pss_one (ps_ret pe_bl))), ?_⟩
    refine ⟨_, rfl, ⟨_, rfl⟩, _, _, rfl, rfl, rfl, (by show s.length + 2 ≤ sizeLine; exact Nat.le_trans (Nat.add_le_add_right hs 2) (by decide)), fun p hp => ?_⟩
    have hL : SqL K (upd H p (.lst ((Txt.split s ".").map V.str))) p ((Txt.split s ".").map V.str) := SqL.of upd_same
    refine ⟨_, rfl, ⟨_, hL⟩, for_it walk_list (fun i σ H' => H' = upd H p (.lst ((Txt.split s ".").map V.str)) ∧ (∃ v, σ = [some (.str s), v]) ∧ ∀ (j : Nat) (x : Str), j < i → (Txt.split s ".")[j]? = some x → isName x = true) ⟨rfl, ⟨_, rfl⟩, fun j x z => by omega⟩ (fun i σ H' _ z => by rw [z.1]; exact hL) ?_ ?_⟩
    · rintro i v σ H1 H2 hi ⟨rfl, ⟨u, rfl⟩, hall⟩ ⟨rfl, hv⟩
      rw [List.getElem?_map] at hv
      obtain ⟨x, hx, rfl⟩ := Option.map_eq_some_iff.mp hv
      have hm : x ∈ Txt.split s "." := List.mem_of_getElem? hx
      refine ⟨_, rfl, x, rfl, Nat.le_trans (split_short hm) hs, _, rfl, ?_⟩
      refine ite2 (fun c => ?_) (fun c => ?_)
      · simp only [Bool.not_eq_true'] at c
        refine asB (q _ (Kp.new hp)) ?_
        cases e : isFull s with
        | false => rfl
        | true =>
          have := List.all_eq_true.mp e x hm
          rw [c] at this; cases this
      · simp only [Bool.not_eq_true', Bool.not_eq_false] at c
        refine ⟨rfl, ⟨_, rfl⟩, fun j y hj e => ?_⟩
        rcases Nat.lt_succ_iff_lt_or_eq.mp hj with z | z
        · exact hall j y z e
        · subst z
          rw [hx] at e; cases e
          exact c
    · rintro σ H1 ⟨rfl, ⟨v, rfl⟩, hall⟩
      refine asB (q _ (Kp.new hp)) (List.all_eq_true.mpr fun x hx => ?_)
      obtain ⟨j, hj⟩ := List.mem_iff_getElem?.mp hx
      exact hall j x (by rw [List.length_map]; exact (List.getElem?_eq_some_iff.mp hj).1) hj
def sp_merge_names (K : PySem.W.Frag) : Sp := fun vs H Q _ => ∃ (p : Addr) (ls : List V) (nss : List (List Str)), vs = [.ref p] ∧ SqT K H p ls ∧ All2 (fun v ns => ∃ a, v = .ref a ∧ Sq K H a (ns.map V.str)) ls nss ∧ nss.flatten.length < 64 ∧
  ∀ (ys : List Str) r H', Asc ys → (∀ x, x ∈ ys ↔ x ∈ nss.flatten) → Kp [] H H' → H' r = some (.tup (ys.map V.str)) → Q (.ref r) H'
theorem ok_merge_names (T : Txt K mg A D) : FnR P w K mg base CX0 1 (A 9) (star 0 (sp_merge_names K)) := by
  obtain ⟨oc0, od0, kV0, doc0, pm0, an0, cdv, ct0, osl0, e0, lk, hcd⟩ := T.F_merge_names.ex
  rw [e0] at lk
  refine StX.fn_star (ps := []) (pv := "lists") (sp := sp_merge_names K) lk hcd sc_merge_names StX.cxUp_none (fun us rest hl => ?_) (fun A' outer s H vs Q E hr h => ?_)
  · match us, hl with | [], _ => cases rest <;> rfl
  · obtain ⟨p, ls, nss, rfl, hp, hall, hlen, q⟩ := h
    have hu := hu_of hr
    refine nox_ex ?_
    refine ⟨_, (pss_cons (ps_set (i := 1) sc_merge_names.nd rfl (Or.inl rfl) pe_dnewK)
      (pss_cons (ps_for PassesOwn.never rfl (iK_tup (K := K) rfl (pv 0)) (pg_name (i := 2) sc_merge_names.nd rfl (Or.inl rfl))
        (pss_one (ps_for PassesOwn.never rfl (pi_or (iK_list (K := K) rfl (pv 2)) (iK_tup (K := K) rfl (pv 2))) (pg_name (i := 3) sc_merge_names.nd rfl (Or.inl rfl))
          (pss_one (ps_dput hu (pv 1) (pv 3) pe_bl rfl)))))
      (pss_one (ps_ret (pe_callTy (T := "tuple") (cK_tuple (K := K) rfl) (by rfl) T.z_tuple (by decide +kernel) (pa_cons (pe_callB (id := "sorted") (cK_sortedS (K := K) rfl) (by rfl) T.z_sorted (by decide +kernel) (pa_cons (pe_callTy (T := "list") (call_listD rfl) (by rfl) T.z_list (by decide +kernel) (pa_cons (pv 1) pa_nil)) pa_nil)) pa_nil)))))), ?_⟩
    intro d hd
    have kd : ∀ o, Kp [] H (upd H d o) := fun o => Kp.new hd
    refine ⟨_, rfl, _, rfl, ⟨_, (kd _).sqT hp⟩, for_it walk_tup (fun i σ H' => ∃ kvs v2 v3, σ = [some (.ref p), some (.ref d), v2, v3] ∧ Kp [] H H' ∧ H' d = some (.dK kvs) ∧ Mgd kvs (nss.take i).flatten)
      ⟨[], none, none, rfl, kd _, upd_same, ⟨List.nodup_nil, fun x => by simp [keysOf]⟩⟩ (fun i σ H' _ z => by obtain ⟨_, _, _, _, k, _⟩ := z; exact k.sqT hp) ?_ ?_⟩
    · rintro i v σ H1 H2 hi ⟨kvs, v2, v3, rfl, k1, e1, m1⟩ ⟨rfl, hv⟩
      obtain ⟨ns, hns, a, rfl, hq⟩ := hall.at hv
      have stp : (nss.take (i + 1)).flatten = (nss.take i).flatten ++ ns := by rw [List.take_add_one, hns]; simp
      have part : ∀ j, ((nss.take i).flatten ++ ns.take j).length < 64 := fun j => by
        have h1 : ((nss.take i).flatten ++ ns.take j).length ≤ ((nss.take (i + 1)).flatten).length := by
          rw [stp, List.length_append, List.length_append, List.length_take]; omega
        have h2 : nss.flatten.length = ((nss.take (i + 1)).flatten).length + ((nss.drop (i + 1)).flatten).length := by
          rw [← List.length_append, ← List.flatten_append, List.take_append_drop]
        omega
      rcases hq with hq | hq
      all_goals
        first
        | (have hs : ∀ H', Kp [] H H' → SqL K H' a (ns.map V.str) := fun _ k => k.sqL List.not_mem_nil hq
           refine .inl ⟨_, rfl, _, rfl, ⟨_, hs _ k1⟩, for_it walk_list (fun j σ H' => ∃ kvs v3, σ = [some (.ref p), some (.ref d), some (.ref a), v3] ∧ Kp [] H H' ∧ H' d = some (.dK kvs) ∧ Mgd kvs ((nss.take i).flatten ++ ns.take j))
            ⟨kvs, v3, rfl, k1, e1, by simpa using m1⟩ (fun j σ H' _ z => by obtain ⟨_, _, _, k, _⟩ := z; exact hs _ k) ?_ ?_⟩)
        | (have hs : ∀ H', Kp [] H H' → SqT K H' a (ns.map V.str) := fun _ k => k.sqT hq
           refine .inr ⟨_, rfl, _, rfl, ⟨_, hs _ k1⟩, for_it walk_tup (fun j σ H' => ∃ kvs v3, σ = [some (.ref p), some (.ref d), some (.ref a), v3] ∧ Kp [] H H' ∧ H' d = some (.dK kvs) ∧ Mgd kvs ((nss.take i).flatten ++ ns.take j))
            ⟨kvs, v3, rfl, k1, e1, by simpa using m1⟩ (fun j σ H' _ z => by obtain ⟨_, _, _, k, _⟩ := z; exact hs _ k) ?_ ?_⟩)
        · rintro j x σ H3 H4 hj ⟨kvs, v3, rfl, k3, e3, m3⟩ ⟨rfl, hx⟩
          rw [List.getElem?_map] at hx
          obtain ⟨s, hs', rfl⟩ := Option.map_eq_some_iff.mp hx
          have st2 : (nss.take i).flatten ++ ns.take (j + 1) = ((nss.take i).flatten ++ ns.take j) ++ [s] := by rw [List.take_add_one, hs']; simp
          refine ⟨_, rfl, _, rfl, _, _, rfl, DPut.k (k := Sum.inr s) e3 (szl (by have := mem_keys_len m3; have := part j; omega)), ?_⟩
          exact ⟨_, _, rfl, k3.put hd, upd_same, by rw [st2]; exact m3.put⟩
        · rintro σ H3 ⟨kvs, v3, rfl, k3, e3, m3⟩
          refine ⟨_, _, _, rfl, k3, e3, ?_⟩
          rw [List.length_map, List.take_length] at m3
          rw [stp]; exact m3
    · rintro σ H1 ⟨kvs, v2, v3, rfl, k1, e1, m1⟩
      rw [hall.length, List.take_length] at m1
      obtain ⟨ks, ek, nd, mk⟩ := m1.keys
      have el : (kvs.map fun kv => kV kv.1) = ks.map V.str := by
        have := congrArg (List.map kV) ek
        rw [keysOf, List.map_map, List.map_map] at this
        exact this
      refine ⟨_, rfl, d, kvs, rfl, .inl e1, fun l hl => ?_⟩
      rw [el]
      refine ⟨l, ks, rfl, SqL.of upd_same, Nat.lt_of_le_of_lt (nodup_short nd fun x hx => (mk x).mp hx) hlen, fun ys t perm srt ht => ?_⟩
      refine ⟨t, _, rfl, .inl ⟨SqL.of upd_same, fun r hr => ?_⟩⟩
      exact q ys r _ (asc_of_sorted srt (perm.nodup_iff.mpr nd)) (fun x => (perm.mem_iff).trans (mk x)) (((k1.trans (Kp.new hl)).trans (Kp.new ht)).trans (Kp.new hr)) upd_same
def sp_Part___init__ (K : PySem.W.Frag) (CN CP C : Addr) : Sp := fun vs H Q E => ∃ (x dx : Addr) (wd n : Str) (sa ha ca : Addr) (sh hi : List Str) (cvs : List V), vs = [.ref x, .str wd, .str n, .ref sa, .ref ha, .ref ca] ∧
  H x = some (.ins C dx []) ∧ Sh H sa (sh.map V.str) ∧ Sh H ha (hi.map V.str) ∧ Sh H ca cvs ∧ sh.length + hi.length < 60 ∧ n.length ≤ 1000 ∧ (∀ t ∈ sh ++ hi, t.length ≤ 1000) ∧ cvs.length ≤ 100 ∧
  (∀ t, badNm n sh hi = some t → ∀ d H1, Kp [] H H1 → H1 d = none → E (.ref CN) (some d) (upd H1 d (.xd [("name", .str t)]))) ∧
  (badNm n sh hi = none → ∀ t, dupL (srtL (sh ++ hi)) = some t → ∀ d H1, Kp [] H H1 → H1 d = none → E (.ref CP) (some d) (upd H1 d (.xd [("name", .str t)]))) ∧
  (badNm n sh hi = none → dupL (srtL (sh ++ hi)) = none → ∀ H', Kp [x] H H' → PartAt C H' x wd n sh hi cvs → Q .non H')
theorem mk_partE {K : PySem.W.Frag} {CN CP C : Addr} {H : Hp} {y dy sa ha ca : Addr} {wd n : Str} {sh hi : List Str} {cvs : List V} {R : Hp → Prop} {E : XK} (hy : H y = none) (hdy : H dy = none) (ne : dy ≠ y) (hsa : Sh H sa (sh.map V.str)) (hha : Sh H ha (hi.map V.str)) (hca : Sh H ca cvs)
    (hl : sh.length + hi.length < 60) (hn : n.length ≤ 1000) (hw : ∀ t ∈ sh ++ hi, t.length ≤ 1000) (hc : cvs.length ≤ 100)
    (e1 : ∀ t, badNm n sh hi = some t → ∀ d H1, Kp [] H H1 → H1 d = none → E (.ref CN) (some d) (upd H1 d (.xd [("name", .str t)])))
    (e2 : badNm n sh hi = none → ∀ t, dupL (srtL (sh ++ hi)) = some t → ∀ d H1, Kp [] H H1 → H1 d = none → E (.ref CP) (some d) (upd H1 d (.xd [("name", .str t)])))
    (q : badNm n sh hi = none → dupL (srtL (sh ++ hi)) = none → ∀ H', Kp [] H H' → PartAt C H' y wd n sh hi cvs → R H') :
    sp_Part___init__ K CN CP C [.ref y, .str wd, .str n, .ref sa, .ref ha, .ref ca] (upd (upd H dy (.own y)) y (.ins C dy [])) (fun v H3 => v = .non ∧ R H3) E := by
  have k0 : Kp [] H (upd (upd H dy (.own y)) y (.ins C dy [])) := (Kp.new hdy).trans (Kp.new (by rw [upd_ne (Ne.symm ne)]; exact hy))
  exact ⟨y, dy, wd, n, sa, ha, ca, sh, hi, cvs, rfl, upd_same, hsa.kp k0 List.not_mem_nil, hha.kp k0 List.not_mem_nil, hca.kp k0 List.not_mem_nil, hl, hn, hw, hc, fun t b d H1 k hd => e1 t b d H1 (k0.trans k) hd, fun b t d0 d H1 k hd => e2 b t d0 d H1 (k0.trans k) hd,
    fun b d H' k p => ⟨rfl, q b d H' (Kp.back hy (k0.nil.trans k)) p⟩⟩
theorem mk_part {K : PySem.W.Frag} {CN CP C : Addr} {H : Hp} {y dy sa ha ca : Addr} {wd n : Str} {sh hi : List Str} {cvs : List V} {R : Hp → Prop} {E : XK} (hy : H y = none) (hdy : H dy = none) (ne : dy ≠ y) (hsa : Sh H sa (sh.map V.str)) (hha : Sh H ha (hi.map V.str)) (hca : Sh H ca cvs)
    (hl : sh.length + hi.length < 60) (hw : ∀ t ∈ sh ++ hi, t.length ≤ 1000) (hc : cvs.length ≤ 100) (v : Vd n sh hi) (q : ∀ H', Kp [] H H' → PartAt C H' y wd n sh hi cvs → R H') :
    sp_Part___init__ K CN CP C [.ref y, .str wd, .str n, .ref sa, .ref ha, .ref ca] (upd (upd H dy (.own y)) y (.ins C dy [])) (fun v H3 => v = .non ∧ R H3) E :=
  mk_partE hy hdy ne hsa hha hca hl (by have := isName_len v.hn; omega) hw hc (fun t b => by rw [v.bad] at b; cases b) (fun _ t b => by rw [v.dup] at b; cases b) fun _ _ => q
theorem ok_Part___init__ (T : Txt K mg A D) : FnOk P w K mg base (L2.CX P w) 3 (A 1220) (D 1220) ["self", "word", "name", "shown", "hidden", "constraints"] (sp_Part___init__ K (A 2) (A 3) (A 11)) := by
  refine T.F_Part___init__.okX sc_Part___init__ (fun vs H Q E h => ?_) (fun cdv A' outer s H vs Q E hr h => ?_)
  · obtain ⟨x, dx, wd, n, sa, ha, ca, sh, hi, cvs, rfl, hx, hsa, hha, hca, hl, hn, hw, hc, q1, q2, q3⟩ := h
    rfl
  · obtain ⟨x, dx, wd, n, sa, ha, ca, sh, hi, cvs, rfl, hx, hsa, hha, hca, hl, hn, hw, hc, q1, q2, q3⟩ := h
    have hu := hu_of hr
    have G_is_name : FnOk P w K mg base CX0 1 (A 7) (D 7) ["text"] (sp_is_name K) := ok_is_name T
    have G_is_full_name : FnOk P w K mg base CX0 2 (A 8) (D 8) ["text"] (sp_is_full_name K) := ok_is_full_name T
    have G_InvalidName__init : FnOk P w K mg base CX0 1 (A 1040) (D 1040) ["self", "name"] (sp_err (A 2) "name") := ok_InvalidName__init T
    have G_InvalidPart__init : FnOk P w K mg base CX0 1 (A 1060) (D 1060) ["self", "name"] (sp_err (A 3) "name") := ok_InvalidPart__init T
    refine ⟨_, (pss_cons (ps_for (passes_of rfl) rfl (iK_tup (K := K) rfl (pe_tup (pa_cons (pv 2) (StX.pa_star (pv 3) pa_nil)))) (pg_name (i := 6) sc_Part___init__.nd rfl (Or.inl rfl))
        (pss_one (ps_if (pt_not (pt_val (pe_call G_is_name (hr.mono (by decide)) rfl T.g_is_name T.F_is_name.kp T.b_is_name .nil pass0 (pa_cons (pv 6) pa_nil))))
          (pss_one (ps_raise rfl (takes_of rfl rfl rfl rfl) (pmk_err T.E_InvalidName G_InvalidName__init (hr.mono (by decide)) rfl (pa_cons (pv 6) pa_nil))))
          pss_nil)))
      (pss_cons (ps_for (passes_of rfl) rfl (pi_or (iK_list (K := K) rfl (pv 4)) (iK_tup (K := K) rfl (pv 4))) (pg_name (i := 6) sc_Part___init__.nd rfl (Or.inl rfl))
        (pss_one (ps_if (pt_not (pt_val (pe_call G_is_full_name (hr.mono (by decide)) rfl T.g_is_full_name T.F_is_full_name.kp T.b_is_full_name .nil pass0 (pa_cons (pv 6) pa_nil))))
          (pss_one (ps_raise rfl (takes_of rfl rfl rfl rfl) (pmk_err T.E_InvalidName G_InvalidName__init (hr.mono (by decide)) rfl (pa_cons (pv 6) pa_nil))))
          pss_nil)))
      (pss_cons (ps_set (i := 7) sc_Part___init__.nd rfl (Or.inl rfl) (pe_callB (id := "sorted") (cK_sortedS (K := K) rfl) (by rfl) T.z_sorted (by decide +kernel) (pa_cons (pe_lst (StX.pa_star (pv 3) (StX.pa_star (pv 4) pa_nil))) pa_nil)))
      (pss_cons (ps_for (passes_of rfl) rfl (pi_range2 rfl T.z_range (pa_cons pe_int (pa_cons (pe_callB (id := "len") (cK_len (K := K) rfl) (by rfl) T.z_len (by decide +kernel) (pa_cons (pv 7) pa_nil)) pa_nil))) (pg_name (i := 8) sc_Part___init__.nd rfl (Or.inl rfl))
        (pss_one (ps_if (pt_cmpR op_eq (pe_ix (xK_list (K := K) rfl) (pv 7) (pe_op op_sub (pv 8) pe_int) (fun _ _ => rfl)) (pe_ix (xK_list (K := K) rfl) (pv 7) (pv 8) (fun _ _ => rfl)) (nomark _))
          (pss_one (ps_raise rfl (takes_of rfl rfl rfl rfl) (pmk_err T.E_InvalidPart G_InvalidPart__init (hr.mono (by decide)) rfl (pa_cons (pe_ix (xK_list (K := K) rfl) (pv 7) (pv 8) (fun _ _ => rfl)) pa_nil))))
          pss_nil)))
      (pss_cons (ps_fld (pv 0) (pv 1) rfl)
      (pss_cons (ps_fld (pv 0) (pv 2) rfl)
      (pss_cons (ps_fld (pv 0) (pe_callTy (T := "tuple") (cK_tuple (K := K) rfl) (by rfl) T.z_tuple (by decide +kernel) (pa_cons (pe_callB (id := "sorted") (cK_sortedS (K := K) rfl) (by rfl) T.z_sorted (by decide +kernel) (pa_cons (pe_callTy (T := "list") (cK_list (K := K) rfl) (by rfl) T.z_list (by decide +kernel) (pa_cons (pv 3) pa_nil)) pa_nil)) pa_nil)) rfl)
      (pss_cons (ps_fld (pv 0) (pe_callTy (T := "tuple") (cK_tuple (K := K) rfl) (by rfl) T.z_tuple (by decide +kernel) (pa_cons (pe_callB (id := "sorted") (cK_sortedS (K := K) rfl) (by rfl) T.z_sorted (by decide +kernel) (pa_cons (pe_callTy (T := "list") (cK_list (K := K) rfl) (by rfl) T.z_list (by decide +kernel) (pa_cons (pv 4) pa_nil)) pa_nil)) pa_nil)) rfl)
      (pss_one (ps_fld (pv 0) (pe_callTy (T := "tuple") (cK_tuple (K := K) rfl) (by rfl) T.z_tuple (by decide +kernel) (pa_cons (pv 5) pa_nil)) rfl)))))))))), ?_⟩
    have hwS : ∀ t ∈ sh, t.length ≤ 1000 := fun t h => hw t (List.mem_append_left _ h)
    have hwH : ∀ t ∈ hi, t.length ≤ 1000 := fun t h => hw t (List.mem_append_right _ h)
    have len0 : (sh.map V.str).length = sh.length := List.length_map _
    refine seq_forK ?_
    refine ⟨_, rfl, _, rfl, sa, _, rfl, hsa.sq.symm, sz (by simp; omega), fun t ht => ⟨t, rfl, ⟨_, SqT.of upd_same⟩, for_seq (walk_tup (xs := ((n :: sh).map V.str) ++ [])) (fun i σ H' => (∃ v6 : Option V, σ = [some (.ref x), some (.str wd), some (.str n), some (.ref sa), some (.ref ha), some (.ref ca), v6, none, none]) ∧
        H' = upd H t (.tup (((n :: sh).map V.str) ++ [])) ∧ ∀ j b, j < i → (n :: sh)[j]? = some b → isName b = true)
      ⟨⟨_, rfl⟩, rfl, fun j b h => absurd h (by omega)⟩ (fun i σ H' _ z => by rw [z.2.1]; exact SqT.of upd_same) ?_ ?_⟩⟩
    · rintro i v σ H1 H2 hi' ⟨⟨v6, rfl⟩, rfl, hall⟩ ⟨rfl, hv⟩
      rw [List.append_nil, List.getElem?_map] at hv
      obtain ⟨z, hz, rfl⟩ := Option.map_eq_some_iff.mp hv
      have zl : z.length ≤ 1000 := by
        rcases List.mem_cons.mp (List.mem_of_getElem? hz) with e | e
        · rw [e]; exact hn
        · exact hwS z e
      refine gnK ?_
      refine if_anK ?_
      refine ⟨_, rfl, z, rfl, Nat.le_trans zl (by decide), _, rfl, ?_⟩
      refine ite2 (fun c => ?_) (fun c => ?_)
      · simp only [Bool.not_eq_true'] at c
        exact ⟨_, rfl, mkO_of ⟨_, rfl, fun d hd => q1 z (bad_first hz hall c) d _ (Kp.new ht) hd⟩⟩
      · simp only [Bool.not_eq_true', Bool.not_eq_false] at c
        refine nextK ⟨⟨_, rfl⟩, rfl, fun j b hj hb => ?_⟩
        rcases Nat.lt_succ_iff_lt_or_eq.mp hj with h | h
        · exact hall j b h hb
        · subst h; rw [hz] at hb; cases hb; exact c
    rintro σ H1 ⟨⟨v6, rfl⟩, rfl, hall⟩
    have f1 : (n :: sh).find? (fun t => !isName t) = none := find_none fun j b hj hb => by rw [hall j b (by simpa using hj) hb]; rfl
    clear hall
    have kt := fun o => Kp.new (A := []) (o := o) ht
    generalize hH1 : upd H t (.tup (((n :: sh).map V.str) ++ [])) = H1
    have k1 : Kp [] H H1 := hH1 ▸ kt _
    have sq : ∀ {a : Addr} {xs : List V} {H'}, Kp [] H H' → Sh H a xs → Sq K H' a xs := fun k h => (h.kp k List.not_mem_nil).sq
    refine seq_forK (sq_var rfl (sq k1 hha) fun J G hG wk => for_seq wk (fun i σ H' => (∃ v6 : Option V, σ = [some (.ref x), some (.str wd), some (.str n), some (.ref sa), some (.ref ha), some (.ref ca), v6, none, none]) ∧
        Kp [] H1 H' ∧ ∀ j b, j < i → hi[j]? = some b → isFull b = true)
      ⟨⟨_, rfl⟩, Kp.refl, fun j b h => absurd h (by omega)⟩ (fun i σ H' _ z => hG [] _ List.not_mem_nil z.2.1) ?_ ?_)
    · rintro i v σ H2 H3 hi' ⟨⟨v6, rfl⟩, k3, hall⟩ ⟨rfl, hv⟩
      rw [List.getElem?_map] at hv
      obtain ⟨z, hz, rfl⟩ := Option.map_eq_some_iff.mp hv
      have zl := hwH z (List.mem_of_getElem? hz)
      refine gnK ?_
      refine if_anK ?_
      refine ⟨_, rfl, z, rfl, Nat.le_trans zl (by decide), fun H4 k4 => ⟨_, rfl, ?_⟩⟩
      refine ite2 (fun c => ?_) (fun c => ?_)
      · simp only [Bool.not_eq_true'] at c
        exact ⟨_, rfl, mkO_of ⟨_, rfl, fun d hd => q1 z (bad_second f1 hz hall c) d _ (k1.trans (k3.trans k4)) hd⟩⟩
      · simp only [Bool.not_eq_true', Bool.not_eq_false] at c
        refine nextK ⟨⟨_, rfl⟩, k3.trans k4, fun j b hj hb => ?_⟩
        rcases Nat.lt_succ_iff_lt_or_eq.mp hj with h | h
        · exact hall j b h hb
        · subst h; rw [hz] at hb; cases hb; exact c
    rintro σ H2 ⟨⟨v6', rfl⟩, k2, hall⟩
    have nb : badNm n sh hi = none := by
      unfold badNm
      rw [f1, find_none fun j b hj hb => by rw [hall j b (by simpa using hj) hb]; rfl]
      rfl
    clear hall f1
    have k12 := k1.trans k2
    walk_at "st"
    refine ⟨_, rfl, sa, _, rfl, (sq k12 hsa).symm, _, rfl, ha, _, rfl, (sq k12 hha).symm, sz (by simp; omega), fun l hl' => ?_⟩
    refine ⟨l, sh ++ hi, rfl, SqL.of (by rw [upd_same]; simp), by simp; omega, fun ys p perm srt hp => ?_⟩
    have eys := srt_eq perm srt
    subst eys
    have yl := srtL_len (sh ++ hi)
    rw [List.length_append] at yl
    have k3 := (k12.trans (Kp.new (o := .lst (sh.map V.str ++ (hi.map V.str ++ []))) hl')).trans (Kp.new (o := .lst ((srtL (sh ++ hi)).map V.str)) hp)
    generalize hH3 : upd (upd H2 l (.lst (sh.map V.str ++ (hi.map V.str ++ [])))) p (.lst ((srtL (sh ++ hi)).map V.str)) = H3 at k3
    have p3 : H3 p = some (.lst ((srtL (sh ++ hi)).map V.str)) := by rw [← hH3]; exact upd_same
    have x3 : H3 x = some (.ins (A 11) dx []) := k3.get hx (.inl List.not_mem_nil)
    have at3 : ∀ (j : Nat) (z : Str), (srtL (sh ++ hi))[j]? = some z → ∀ k : Int, k = (j : Int) → ∀ (Q : VK), Q (.str z) H3 → rIxL K (.ref p) (.int k) H3 Q := fun j z hz k ek Q q => ⟨p, _, _, _, rfl, rfl, SqL.of p3, by rw [ek]; exact atI_nat (by rw [List.getElem?_map, hz]; rfl), q⟩
    refine seq_forK ?_
    refine ⟨_, rfl, _, (srtL (sh ++ hi)).length, rfl, .inl ⟨_, SqL.of p3, by rw [List.length_map]⟩, _, _, rfl, by omega, for_seq walk_range (fun i σ H' => (∃ v8 : Option V, σ = [some (.ref x), some (.str wd), some (.str n), some (.ref sa), some (.ref ha), some (.ref ca), v6', some (.ref p), v8]) ∧
        H' = H3 ∧ dupL (srtL (sh ++ hi)) = dupL ((srtL (sh ++ hi)).drop i)) ⟨⟨_, rfl⟩, rfl, rfl⟩ (fun _ _ _ _ _ => trivial) ?_ ?_⟩
    · rintro i v σ H4 H5 hi' ⟨⟨v8, rfl⟩, rfl, hd⟩ ⟨rfl, rfl⟩
      obtain ⟨za, hza⟩ : ∃ z, (srtL (sh ++ hi))[i]? = some z := ⟨_, List.getElem?_eq_getElem (by omega)⟩
      obtain ⟨zb, hzb⟩ : ∃ z, (srtL (sh ++ hi))[i + 1]? = some z := ⟨_, List.getElem?_eq_getElem (by omega)⟩
      refine gnK ?_
      refine if_anK ?_
      refine ⟨_, rfl, _, rfl, _, _, rfl, rfl, at3 i za hza _ (by omega) _ ⟨_, rfl, _, rfl, at3 (i + 1) zb hzb _ (by omega) _ ⟨rfl, _, rfl, ?_⟩⟩⟩
      refine ite2 (fun c => ?_) (fun c => ?_)
      · have e : za = zb := by simpa using c
        exact ⟨_, rfl, _, rfl, at3 (i + 1) zb hzb _ (by omega) _ (mkO_of ⟨_, rfl, fun d hd' => q2 nb zb (by rw [hd, dup_step hza hzb, if_pos e]) d _ k3 hd'⟩)⟩
      · have e : za ≠ zb := by simpa using c
        exact nextK ⟨⟨_, rfl⟩, rfl, by rw [hd, dup_step hza hzb, if_neg e]⟩
    rintro σ H4 ⟨⟨v8, rfl⟩, rfl, hd⟩
    have nd : dupL (srtL (sh ++ hi)) = none := by
      rw [hd]; exact dup_end (by omega)
    clear hd
    refine ⟨_, rfl, _, rfl, x, A 11, dx, _, rfl, x3, T.cl_Part, T.n_Part_word, by simp, ?_⟩
    refine ⟨_, rfl, _, rfl, x, A 11, dx, _, rfl, upd_same, T.cl_Part, T.n_Part_name, by simp [putF], ?_⟩
    have kx : ∀ {H' o}, H' x = some (.ins (A 11) dx o) → ∀ o', Kp [x] H' (upd H' x (.ins (A 11) dx o')) := fun h o' => Kp.own h rfl (by simp)
    rw [upd_upd]
    have k4 : Kp [x] H (upd H4 x (.ins (A 11) dx (putF "name" (.str n) (putF "word" (.str wd) [])))) := k3.nil.trans (kx x3 _)
    have x4 : (upd H4 x (.ins (A 11) dx (putF "name" (.str n) (putF "word" (.str wd) [])))) x = some (.ins (A 11) dx [("word", .str wd), ("name", .str n)]) := upd_same
    generalize upd H4 x (.ins (A 11) dx (putF "name" (.str n) (putF "word" (.str wd) []))) = H5 at k4 x4
    have nx : ∀ {a : Addr} {xs : List V}, Sh H a xs → a ∉ [x] := fun h => by simpa using h.ne hx
    -- shown
    refine ⟨_, rfl, sa, _, rfl, ((hsa.kp k4 (nx hsa)).imp SqL.of SqT.of), fun l1 hl1 => ?_⟩
    refine ⟨l1, sh, rfl, SqL.of upd_same, by omega, fun ys1 p1 perm1 srt1 hp1 => ?_⟩
    have e1 := srt_eq perm1 srt1
    subst e1
    refine ⟨p1, _, rfl, .inl ⟨SqL.of upd_same, fun r1 hr1 => ?_⟩⟩
    have k5 : Kp [] H5 (upd (upd (upd H5 l1 (.lst (sh.map V.str))) p1 (.lst ((srtL sh).map V.str))) r1 (.tup ((srtL sh).map V.str))) := ((Kp.new hl1).trans (Kp.new hp1)).trans (Kp.new hr1)
    have r5 : (upd (upd (upd H5 l1 (.lst (sh.map V.str))) p1 (.lst ((srtL sh).map V.str))) r1 (.tup ((srtL sh).map V.str))) r1 = some (.tup ((srtL sh).map V.str)) := upd_same
    generalize upd (upd (upd H5 l1 (.lst (sh.map V.str))) p1 (.lst ((srtL sh).map V.str))) r1 (.tup ((srtL sh).map V.str)) = H6 at k5 r5
    have x6 := k5.get x4 (.inl List.not_mem_nil)
    refine ⟨_, rfl, x, A 11, dx, _, rfl, x6, T.cl_Part, T.n_Part_shown, by simp, ?_⟩
    have k6 := k4.trans (k5.nil.trans (kx x6 (putF "shown" (.ref r1) [("word", .str wd), ("name", .str n)])))
    have x7 : (upd H6 x (.ins (A 11) dx (putF "shown" (.ref r1) [("word", .str wd), ("name", .str n)]))) x = some (.ins (A 11) dx [("word", .str wd), ("name", .str n), ("shown", .ref r1)]) := upd_same
    have r7 := (kx x6 (putF "shown" (.ref r1) [("word", .str wd), ("name", .str n)])).get r5 (.inr rfl)
    generalize upd H6 x (.ins (A 11) dx (putF "shown" (.ref r1) [("word", .str wd), ("name", .str n)])) = H7 at k6 x7 r7
    -- hidden
    refine ⟨_, rfl, ha, _, rfl, ((hha.kp k6 (nx hha)).imp SqL.of SqT.of), fun l2 hl2 => ?_⟩
    refine ⟨l2, hi, rfl, SqL.of upd_same, by omega, fun ys2 p2 perm2 srt2 hp2 => ?_⟩
    have e2 := srt_eq perm2 srt2
    subst e2
    refine ⟨p2, _, rfl, .inl ⟨SqL.of upd_same, fun r2 hr2 => ?_⟩⟩
    have k8 : Kp [] H7 (upd (upd (upd H7 l2 (.lst (hi.map V.str))) p2 (.lst ((srtL hi).map V.str))) r2 (.tup ((srtL hi).map V.str))) := ((Kp.new hl2).trans (Kp.new hp2)).trans (Kp.new hr2)
    have q8 : (upd (upd (upd H7 l2 (.lst (hi.map V.str))) p2 (.lst ((srtL hi).map V.str))) r2 (.tup ((srtL hi).map V.str))) r2 = some (.tup ((srtL hi).map V.str)) := upd_same
    generalize upd (upd (upd H7 l2 (.lst (hi.map V.str))) p2 (.lst ((srtL hi).map V.str))) r2 (.tup ((srtL hi).map V.str)) = H8 at k8 q8
    have x8 := k8.get x7 (.inl List.not_mem_nil)
    have r8 := k8.get r7 (.inr rfl)
    refine ⟨_, rfl, x, A 11, dx, _, rfl, x8, T.cl_Part, T.n_Part_hidden, by simp, ?_⟩
    have kx8 := kx x8 (putF "hidden" (.ref r2) [("word", .str wd), ("name", .str n), ("shown", .ref r1)])
    have k9 := k6.trans (k8.nil.trans kx8)
    have x9 : (upd H8 x (.ins (A 11) dx (putF "hidden" (.ref r2) [("word", .str wd), ("name", .str n), ("shown", .ref r1)]))) x = some (.ins (A 11) dx [("word", .str wd), ("name", .str n), ("shown", .ref r1), ("hidden", .ref r2)]) := upd_same
    have r9 := kx8.get r8 (.inr rfl)
    have q9 := kx8.get q8 (.inr rfl)
    generalize upd H8 x (.ins (A 11) dx (putF "hidden" (.ref r2) [("word", .str wd), ("name", .str n), ("shown", .ref r1)])) = H9 at k9 x9 r9 q9
    -- constraints
    have fin : ∀ (H10 : Hp) (c : Addr), Kp [] H9 H10 → H10 c = some (.tup cvs) → Q .non (upd H10 x (.ins (A 11) dx (fldsP wd n r1 r2 c))) := fun H10 c k10 hc10 => by
      have x10 := k10.get x9 (.inl List.not_mem_nil)
      have kx10 := kx x10 (fldsP wd n r1 r2 c)
      exact q3 nb nd _ (k9.trans (k10.nil.trans kx10)) ⟨⟨dx, r1, r2, c, upd_same, kx10.get (k10.get r9 (.inr rfl)) (.inr rfl), kx10.get (k10.get q9 (.inr rfl)) (.inr rfl), kx10.get hc10 (.inr rfl)⟩⟩
    refine ⟨_, rfl, ca, cvs, rfl, ?_⟩
    rcases hca.kp k9 (nx hca) with hc9 | hc9
    · refine .inl ⟨SqL.of hc9, fun c hc' => ?_⟩
      have k10 := Kp.new (A := []) (o := .tup cvs) hc'
      exact ⟨_, rfl, x, A 11, dx, _, rfl, k10.get x9 (.inl List.not_mem_nil), T.cl_Part, T.n_Part_constraints, by simp, fin _ c k10 upd_same⟩
    · refine .inr ⟨SqT.of hc9, ?_⟩
      exact ⟨_, rfl, x, A 11, dx, _, rfl, x9, T.cl_Part, T.n_Part_constraints, by simp, fin _ ca Kp.refl hc9⟩
def sp_Part_names (K : PySem.W.Frag) (C : Addr) : Sp := fun vs H Q _ => ∃ (x : Addr) (wd n : Str) (sh hi : List Str) (cvs : List V), vs = [.ref x] ∧ PartAt C H x wd n sh hi cvs ∧ (sh ++ hi).Nodup ∧ (sh ++ hi).length < 60 ∧
  ∀ r H', Kp [] H H' → H' r = some (.tup ((srtL (sh ++ hi)).map V.str)) → Q (.ref r) H'
theorem ok_Part_names (T : Txt K mg A D) : FnOk P w K mg base CX0 2 (A 1222) (D 1222) ["self"] (sp_Part_names K (A 11)) := by
  refine T.F_Part_names.ok sc_Part_names (fun vs H Q E h => ?_) (fun cdv A' outer s H vs Q E hr h => ?_)
  · obtain ⟨x, wd, n, sh, hi, cvs, rfl, ⟨dx, s1, h1, c1, hx, es, eh, ec⟩, nd, hl, q⟩ := h
    rfl
  · obtain ⟨x, wd, n, sh, hi, cvs, rfl, ⟨dx, s1, h1, c1, hx, es, eh, ec⟩, nd, hl, q⟩ := h
    have hu := hu_of hr
    have G_merge_names : FnR P w K mg base CX0 1 (A 9) (star 0 (sp_merge_names K)) := ok_merge_names T
    refine ⟨_, (pss_one (ps_ret (pe_callF G_merge_names (hr.mono (by decide)) T.F_merge_names.kp rfl T.g_merge_names pass0 (pa_cons (pe_fld (pv 0) rfl) (pa_cons (pe_fld (pv 0) rfl) pa_nil))))), ?_⟩
    walk_at "st"
    refine ⟨_, rfl, x, A 11, dx, _, _, rfl, hx, T.cl_Part, T.n_Part_shown, rfl, _, rfl, x, A 11, dx, _, _, rfl, hx, T.cl_Part, T.n_Part_hidden, rfl, ?_⟩
    refine ⟨[], _, rfl, rfl, by simp; decide, fun t ht => ?_⟩
    have kt := fun o => Kp.new (A := []) (o := o) ht
    refine ⟨t, _, [srtL sh, srtL hi], rfl, SqT.of upd_same, ⟨⟨s1, rfl, .inr (SqT.of ((kt _).get es (.inr rfl)))⟩, ⟨h1, rfl, .inr (SqT.of ((kt _).get eh (.inr rfl)))⟩, trivial⟩, ?_, fun ys r H' asc mem k e => ?_⟩
    · simp [srtL_len]; simpa using (show sh.length + hi.length < 64 by simp at hl; omega)
    · have ey : ys = srtL (sh ++ hi) := Asc.ext asc (srtL_asc nd) fun z => by
        rw [mem z, (srtL_perm (sh ++ hi)).mem_iff]
        simp [(srtL_perm sh).mem_iff, (srtL_perm hi).mem_iff]
      subst ey
      exact q r H' ((kt _).trans k) e
def sp_Part_theory (K : PySem.W.Frag) (C : Addr) : Sp := fun vs H Q _ => ∃ (x : Addr) (wd n : Str) (sh hi : List Str) (cvs : List V), vs = [.ref x] ∧ PartAt C H x wd n sh hi cvs ∧ (sh ++ hi).Nodup ∧ (sh ++ hi).length < 60 ∧
  ∀ r m c H', Kp [] H H' → H' m = some (.tup ((srtL (sh ++ hi)).map V.str)) → H' c = some (.tup cvs) → H' r = some (.tup [.ref m, .ref c]) → Q (.ref r) H'
theorem ok_Part_theory (T : Txt K mg A D) : FnOk P w K mg base CX0 4 (A 1223) (D 1223) ["self"] (sp_Part_theory K (A 11)) := by
  refine T.F_Part_theory.ok sc_Part_theory (fun vs H Q E h => ?_) (fun cdv A' outer s H vs Q E hr h => ?_)
  · obtain ⟨x, wd, n, sh, hi, cvs, rfl, ⟨dx, s1, h1, c1, hx, es, eh, ec⟩, nd, hl, q⟩ := h
    rfl
  · obtain ⟨x, wd, n, sh, hi, cvs, rfl, ⟨dx, s1, h1, c1, hx, es, eh, ec⟩, nd, hl, q⟩ := h
    have hu := hu_of hr
    have G_Part_names : FnOk P w K mg base CX0 2 (A 1222) (D 1222) ["self"] (sp_Part_names K (A 11)) := ok_Part_names T
    refine ⟨_, (pss_one (ps_ret (pe_tup (pa_cons (pe_prop (pv 0) T.cl_Part T.P_Part_names G_Part_names (hr.mono (by decide)) T.b_Part_names .nil pass0 (by rfl)) (pa_cons (pe_fld (pv 0) rfl) pa_nil))))), ?_⟩
    walk_at "st"
    refine ⟨_, rfl, x, dx, _, rfl, hx, x, wd, n, sh, hi, cvs, rfl, ⟨⟨dx, s1, h1, c1, hx, es, eh, ec⟩⟩, nd, hl, fun m H1 k1 em => ?_⟩
    refine ⟨_, rfl, x, A 11, dx, _, _, rfl, k1.get hx (.inl List.not_mem_nil), T.cl_Part, T.n_Part_constraints, rfl, sz (by simp), fun r hr => ?_⟩
    have kr := fun o => Kp.new (A := []) (o := o) hr
    exact q r m c1 _ (k1.trans (kr _)) ((kr _).get em (.inr rfl)) ((kr _).get (k1.get ec (.inr rfl)) (.inr rfl)) upd_same
def sp_Part___len__ (K : PySem.W.Frag) (C : Addr) : Sp := fun vs H Q _ => ∃ (x : Addr) (wd n : Str) (sh hi : List Str) (cvs : List V), vs = [.ref x] ∧ PartAt C H x wd n sh hi cvs ∧ Q (.int (cvs.length : Nat)) H
theorem ok_Part___len__ (T : Txt K mg A D) : FnOk P w K mg base CX0 1 (A 1224) (D 1224) ["self"] (sp_Part___len__ K (A 11)) := by
  refine T.F_Part___len__.ok sc_Part___len__ (fun vs H Q E h => ?_) (fun cdv A' outer s H vs Q E hr h => ?_)
  · obtain ⟨x, wd, n, sh, hi, cvs, rfl, ⟨dx, s1, h1, c1, hx, es, eh, ec⟩, q⟩ := h
    rfl
  · obtain ⟨x, wd, n, sh, hi, cvs, rfl, ⟨dx, s1, h1, c1, hx, es, eh, ec⟩, q⟩ := h
    have hu := hu_of hr
    refine ⟨_, (pss_one (ps_ret (pe_callB (id := "len") (cK_len (K := K) rfl) (by rfl) T.z_len (by decide +kernel) (pa_cons (pe_fld (pv 0) rfl) pa_nil)))), ?_⟩
    walk_at "st"
    exact ⟨_, rfl, x, A 11, dx, _, _, rfl, hx, T.cl_Part, T.n_Part_constraints, rfl, _, cvs.length, rfl, .inr ⟨_, SqT.of ec, rfl⟩, q⟩
theorem ok_Part___iter__ (T : Txt K mg A D) : FnSz P w K mg base CX0 1 (A 1225) (D 1225) ["self"] (spIt K (partC (A 11))) := by
  obtain ⟨oc0, od0, kV0, doc0, pm0, an0, cdv, ct0, osl0, e0, lk, hcd⟩ := T.F_Part___iter__.ex
  rw [e0] at lk
  rw [e0]
  refine fn_sz lk hcd sc_Part___iter__ (fun n vs H Q E h => ?_) (fun A' outer s H vs Q E hr h => ?_)
  · obtain ⟨x, t, zs, rfl, ht, hz, q⟩ := h
    rfl
  · obtain ⟨x, t, zs, rfl, ht, hz, q⟩ := h
    have hu := hu_of hr
    refine ⟨_, (pss_one (ps_ret (pe_callB (id := "iter") call_iterT (by rfl) T.z_iter (by decide +kernel) (pa_cons (pe_fld (pv 0) rfl) pa_nil)))), ?_⟩
    obtain ⟨dx, wd, n, s1, h1, hx⟩ := ht
    walk_at "st"
    exact ⟨_, rfl, x, A 11, dx, _, _, rfl, hx, T.cl_Part, T.n_Part_constraints, rfl, t, zs, rfl, hz, fun it h0 hn => q it h0 hn⟩
def sp_Part___contains__ (K : PySem.W.Frag) (C : Addr) : Sp := fun vs H Q _ => ∃ (x : Addr) (z wd n : Str) (sh hi : List Str) (cvs : List V), vs = [.ref x, .str z] ∧ PartAt C H x wd n sh hi cvs ∧ Q (.bl (decide (z ∈ sh))) H
theorem ok_Part___contains__ (T : Txt K mg A D) : FnOk P w K mg base CX0 1 (A 1226) (D 1226) ["self", "name"] (sp_Part___contains__ K (A 11)) := by
  refine T.F_Part___contains__.ok sc_Part___contains__ (fun vs H Q E h => ?_) (fun cdv A' outer s H vs Q E hr h => ?_)
  · obtain ⟨x, z, wd, n, sh, hi, cvs, rfl, ⟨dx, s1, h1, c1, hx, es, eh, ec⟩, q⟩ := h
    rfl
  · obtain ⟨x, z, wd, n, sh, hi, cvs, rfl, ⟨dx, s1, h1, c1, hx, es, eh, ec⟩, q⟩ := h
    have hu := hu_of hr
    refine ⟨_, (pss_one (ps_ret (pe_cmpR (oK_in (K := K) rfl) (pv 1) (pe_fld (pv 0) rfl) rfl))), ?_⟩
    walk_at "st"
    refine ⟨_, rfl, _, rfl, x, A 11, dx, _, _, rfl, hx, T.cl_Part, T.n_Part_shown, rfl, s1, _, rfl, .inr (SqT.of es), rfl, flat_strs _, ?_⟩
    rw [if_neg Bool.false_ne_true, inV_strs]
    exact asB q (by simp [(srtL_perm sh).mem_iff])
def sp_Part___sub__ (K : PySem.W.Frag) (CP C : Addr) : Sp := fun vs H Q E => ∃ (x : Addr) (z wd n : Str) (sh hi : List Str) (cvs : List V), vs = [.ref x, .str z] ∧ PartV C H x wd n sh hi cvs ∧
  (z ∉ sh → ∀ d, H d = none → E (.ref CP) (some d) (upd H d (.xd [("name", .str z)]))) ∧
  (z ∈ sh → ∀ y H', Kp [] H H' → PartAt C H' y wd n (sh.filter fun t => !decide (t = z)) (hi ++ [z]) cvs → Q (.ref y) H')
theorem ok_Part___sub__ (T : Txt K mg A D) : FnOk P w K mg base (L2.CX P w) 5 (A 1227) (D 1227) ["self", "name"] (sp_Part___sub__ K (A 3) (A 11)) := by
  refine T.F_Part___sub__.okX sc_Part___sub__ (fun vs H Q E h => ?_) (fun cdv A' outer s H vs Q E hr h => ?_)
  · obtain ⟨x, z, wd, n, sh, hi, cvs, rfl, ⟨⟨dx, s1, h1, c1, hx, es, eh, ec⟩, vd, hl, ht, hc⟩, q0, q1⟩ := h
    rfl
  · obtain ⟨x, z, wd, n, sh, hi, cvs, rfl, ⟨⟨dx, s1, h1, c1, hx, es, eh, ec⟩, vd, hl, ht, hc⟩, q0, q1⟩ := h
    have hu := hu_of hr
    have G_Part___init__ : FnOk P w K mg base (L2.CX P w) 3 (A 1220) (D 1220) ["self", "word", "name", "shown", "hidden", "constraints"] (sp_Part___init__ K (A 2) (A 3) (A 11)) := ok_Part___init__ T
    have G_InvalidPart__init : FnOk P w K mg base CX0 1 (A 1060) (D 1060) ["self", "name"] (sp_err (A 3) "name") := ok_InvalidPart__init T
    refine ⟨_, (pss_cons (ps_if (pt_cmpR (oK_nin (K := K) rfl) (pv 1) (pe_fld (pv 0) rfl) rfl)
        (pss_one (ps_raise rfl (takes_of rfl rfl rfl rfl) (pmk_err T.E_InvalidPart G_InvalidPart__init (hr.mono (by decide)) rfl (pa_cons (pv 1) pa_nil))))
        pss_nil)
      (pss_cons (ps_setLc (i := 2) (own := [("other", 3)]) (g := gName 3)  rfl sc_Part___sub__.nd rfl rfl (sw_true rfl rfl rfl (by decide +kernel))  (iK_tup (K := K) rfl (pe_fld (pv 0) rfl)) (blkOk_by (N := N_Part___sub__) (sc := defScope (topM 11 7)) (by decide +kernel)) (fun _ _ _ _ _ => (pg_name (i := 3) sc_Part___sub__.nd rfl (Or.inl rfl))) (fun _ _ _ _ _ => (pts_one (pt_cmpR op_ne (pv 3) (pv 1) (nomark _)))) (fun _ _ _ _ _ => (pv 3)))
      (pss_one (ps_ret (pe_makeO T.mk_Part G_Part___init__ (hr.mono (by decide)) rfl T.g_Part T.b_Part___init__ .nil (fun σ => passAt (takes_of rfl rfl rfl rfl) σ) (pa_cons (pe_fld (pv 0) rfl) (pa_cons (pe_fld (pv 0) rfl) (pa_cons (pv 2) (pa_cons (pe_op op_catA (pe_fld (pv 0) rfl) (pe_tup (pa_cons (pv 1) pa_nil))) (pa_cons (pe_fld (pv 0) rfl) pa_nil)))))))))), ?_⟩
    refine seq_ifK0 ?_
    refine ⟨_, rfl, _, rfl, x, A 11, dx, _, _, rfl, hx, T.cl_Part, T.n_Part_shown, rfl, s1, _, rfl, .inr (SqT.of es), rfl, flat_strs _, _, rfl, ?_⟩
    rw [if_pos rfl, inV_strs]
    refine ite2 (fun c => ?_) (fun c => ?_)
    · have hz : z ∉ sh := by simpa [(srtL_perm sh).mem_iff] using c
      exact ⟨_, rfl, mkO_of ⟨_, rfl, fun d hd => q0 hz d hd⟩⟩
    have hz : z ∈ sh := by simpa [(srtL_perm sh).mem_iff] using c
    have vm := vd.minus hz
    walk_at "st"
    refine ⟨_, rfl, x, A 11, dx, _, _, rfl, hx, T.cl_Part, T.n_Part_shown, rfl, s1, rfl, ⟨_, SqT.of es⟩, fun p hp => lc_it walk_tup (fun i H' => H' p = some (.lst ((((srtL sh).take i).filter fun t => !decide (t = z)).map V.str)) ∧ Kp [] H H')
      ⟨upd_same, Kp.new hp⟩ (fun i H' _ k => k.2.sqT (SqT.of es)) ?_ ?_⟩
    · rintro i v H1 H2 hi' ⟨e1, k1⟩ ⟨rfl, hv⟩
      rw [List.getElem?_map] at hv
      obtain ⟨y, hy, rfl⟩ := Option.map_eq_some_iff.mp hv
      have st : ((srtL sh).take (i + 1)).filter (fun t => !decide (t = z)) = ((srtL sh).take i).filter (fun t => !decide (t = z)) ++ (if y = z then [] else [y]) := by
        rw [List.take_add_one, hy, Option.toList_some, List.filter_append]
        by_cases e : y = z
        · simp [e]
        · simp [e]
      refine gnK ⟨rfl, ?_⟩
      refine ⟨_, rfl, _, rfl, rfl, _, rfl, ?_⟩
      refine ite2 (fun c => ?_) (fun c => ?_)
      · have e : y ≠ z := by simpa using c
        have fl : ((((srtL sh).take i).filter fun t => !decide (t = z)).map V.str).length ≤ 60 := by
          rw [List.length_map]
          refine Nat.le_trans (List.length_filter_le _ _) ?_
          rw [List.length_take, srtL_len]; omega
        refine ⟨_, rfl, _, e1, szl (by omega), ?_, k1.put hp⟩
        · rw [upd_same, st, if_neg e, List.map_append]; rfl
      · have e : y = z := by simpa using c
        exact ⟨by rw [st, if_pos e, List.append_nil]; exact e1, k1⟩
    rintro H1 ⟨e1, k1⟩
    rw [List.length_map, List.take_length] at e1
    have hx1 := k1.get hx (.inl List.not_mem_nil)
    have eh1 := k1.get eh (.inr rfl)
    have ec1 := k1.get ec (.inr rfl)
    refine ⟨_, rfl, x, A 11, dx, _, _, rfl, hx1, T.cl_Part, T.n_Part_word, rfl, _, rfl, x, A 11, dx, _, _, rfl, hx1, T.cl_Part, T.n_Part_name, rfl, _, rfl, ?_⟩
    refine ⟨_, rfl, x, A 11, dx, _, _, rfl, hx1, T.cl_Part, T.n_Part_hidden, rfl, ?_⟩
    have lens : ((srtL sh).filter fun t => !decide (t = z)).length ≤ sh.length := by
      refine Nat.le_trans (List.length_filter_le _ _) ?_
      rw [srtL_len]; exact Nat.le_refl _
    have fin : ∀ (r : Addr) (H2 : Hp), Kp [] H1 H2 → H2 r = some (.tup ((srtL hi).map V.str ++ [.str z])) → ∀ y dy, H2 y = none → H2 dy = none → dy ≠ y → ∀ E' : XK,
        sp_Part___init__ K (A 2) (A 3) (A 11) [.ref y, .str wd, .str n, .ref p, .ref r, .ref c1] (upd (upd H2 dy (.own y)) y (.ins (A 11) dy [])) (fun v H3 => v = .non ∧ Q (.ref y) H3) E' := fun r H2 k2 er y dy hy hdy ne E' => by
      refine mk_part hy hdy ne (.inl (k2.get e1 (.inl List.not_mem_nil))) (hi := srtL hi ++ [z]) (.inr (by rw [er]; simp)) (.inr (k2.get ec1 (.inr rfl))) (by simp [srtL_len]; omega) (fun t h => ?_) hc vm fun H3 k3 p3 => q1 hz y H3 (k1.trans (k2.trans k3)) (p3.congr ((srtL_perm sh).filter _) ((srtL_perm hi).append (.refl _)))
      rcases List.mem_append.mp h with h | h
      · exact ht t (List.mem_append_left _ ((srtL_perm sh).mem_iff.mp (List.mem_filter.mp h).1))
      · rcases List.mem_append.mp h with h | h
        · exact ht t (List.mem_append_right _ ((srtL_perm hi).mem_iff.mp h))
        · rw [List.mem_singleton.mp h]; exact ht z (List.mem_append_left _ hz)
    refine ⟨_, rfl, sz (by simp), fun t hnt => ?_⟩
    have kt := fun o => Kp.new (A := []) (o := o) hnt
    refine ⟨h1, t, _, _, rfl, rfl, SqT.of ((kt _).get eh1 (.inr rfl)), SqT.of upd_same, sz (by simp [srtL_len]; omega), fun e0 => ?_, fun _ e => by simp at e, fun _ _ r hr => ?_⟩
    · exact ⟨_, rfl, x, A 11, dx, _, _, rfl, (kt _).get hx1 (.inl List.not_mem_nil), T.cl_Part, T.n_Part_constraints, rfl, fun y dy hy hdy ne => fin t _ (kt _) (by rw [upd_same, e0]; rfl) y dy hy hdy ne _⟩
    · have kr := (kt _).trans (Kp.new (A := []) (o := .tup ((srtL hi).map V.str ++ [.str z])) hr)
      exact ⟨_, rfl, x, A 11, dx, _, _, rfl, kr.get hx1 (.inl List.not_mem_nil), T.cl_Part, T.n_Part_constraints, rfl, fun y dy hy hdy ne => fin r _ kr upd_same y dy hy hdy ne _⟩
def sp_Part_reveal (K : PySem.W.Frag) (CP C : Addr) : Sp := fun vs H Q E => ∃ (x : Addr) (z wd n : Str) (sh hi : List Str) (cvs : List V), vs = [.ref x, .str z] ∧ PartV C H x wd n sh hi cvs ∧ z.length ≤ 1000 ∧
  (¬ (z ∈ hi ∧ isName z = true) → ∀ d, H d = none → E (.ref CP) (some d) (upd H d (.xd [("name", .str z)]))) ∧
  (z ∈ hi → isName z = true → ∀ y H', Kp [] H H' → PartAt C H' y wd n (sh ++ [z]) (hi.filter fun t => !decide (t = z)) cvs → Q (.ref y) H')
theorem ok_Part_reveal (T : Txt K mg A D) : FnOk P w K mg base (L2.CX P w) 5 (A 1228) (D 1228) ["self", "name"] (sp_Part_reveal K (A 3) (A 11)) := by
  refine T.F_Part_reveal.okX sc_Part_reveal (fun vs H Q E h => ?_) (fun cdv A' outer s H vs Q E hr h => ?_)
  · obtain ⟨x, z, wd, n, sh, hi, cvs, rfl, ⟨⟨dx, s1, h1, c1, hx, es, eh, ec⟩, vd, hl, ht, hc⟩, zl, q0, q1⟩ := h
    rfl
  · obtain ⟨x, z, wd, n, sh, hi, cvs, rfl, ⟨⟨dx, s1, h1, c1, hx, es, eh, ec⟩, vd, hl, ht, hc⟩, zl, q0, q1⟩ := h
    have hu := hu_of hr
    have G_is_name : FnOk P w K mg base CX0 1 (A 7) (D 7) ["text"] (sp_is_name K) := ok_is_name T
    have G_Part___init__ : FnOk P w K mg base (L2.CX P w) 3 (A 1220) (D 1220) ["self", "word", "name", "shown", "hidden", "constraints"] (sp_Part___init__ K (A 2) (A 3) (A 11)) := ok_Part___init__ T
    have G_InvalidPart__init : FnOk P w K mg base CX0 1 (A 1060) (D 1060) ["self", "name"] (sp_err (A 3) "name") := ok_InvalidPart__init T
    refine ⟨_, (pss_cons (ps_if (PW.pt (pw_or (pt_cmpR (oK_nin (K := K) rfl) (pv 1) (pe_fld (pv 0) rfl) rfl) (pw_or1 (pt_not (pt_val (pe_call G_is_name (hr.mono (by decide)) rfl T.g_is_name T.F_is_name.kp T.b_is_name .nil pass0 (pa_cons (pv 1) pa_nil)))))))
        (pss_one (ps_raise rfl (takes_of rfl rfl rfl rfl) (pmk_err T.E_InvalidPart G_InvalidPart__init (hr.mono (by decide)) rfl (pa_cons (pv 1) pa_nil))))
        pss_nil)
      (pss_cons (ps_setLc (i := 2) (own := [("other", 3)]) (g := gName 3)  rfl sc_Part_reveal.nd rfl rfl (sw_true rfl rfl rfl (by decide +kernel))  (iK_tup (K := K) rfl (pe_fld (pv 0) rfl)) (blkOk_by (N := N_Part_reveal) (sc := defScope (topM 11 8)) (by decide +kernel)) (fun _ _ _ _ _ => (pg_name (i := 3) sc_Part_reveal.nd rfl (Or.inl rfl))) (fun _ _ _ _ _ => (pts_one (pt_cmpR op_ne (pv 3) (pv 1) (nomark _)))) (fun _ _ _ _ _ => (pv 3)))
      (pss_one (ps_ret (pe_makeO T.mk_Part G_Part___init__ (hr.mono (by decide)) rfl T.g_Part T.b_Part___init__ .nil (fun σ => passAt (takes_of rfl rfl rfl rfl) σ) (pa_cons (pe_fld (pv 0) rfl) (pa_cons (pe_fld (pv 0) rfl) (pa_cons (pe_op op_catA (pe_fld (pv 0) rfl) (pe_tup (pa_cons (pv 1) pa_nil))) (pa_cons (pv 2) (pa_cons (pe_fld (pv 0) rfl) pa_nil)))))))))), ?_⟩
    refine seq_ifK0 ?_
    refine ⟨_, rfl, _, rfl, x, A 11, dx, _, _, rfl, hx, T.cl_Part, T.n_Part_hidden, rfl, h1, _, rfl, .inr (SqT.of eh), rfl, flat_strs _, _, rfl, ?_⟩
    rw [if_pos rfl, inV_strs]
    refine ite2 (fun c => ?_) (fun c => ?_)
    · have hz : z ∉ hi := by simpa [(srtL_perm hi).mem_iff] using c
      refine iteT ?_
      exact ⟨_, rfl, mkO_of ⟨_, rfl, fun d hd => q0 (fun h => hz h.1) d hd⟩⟩
    have hz : z ∈ hi := by simpa [(srtL_perm hi).mem_iff] using c
    refine ⟨_, rfl, z, rfl, Nat.le_trans zl (by decide), _, rfl, ?_⟩
    refine ite2 (fun c => ?_) (fun c => ?_)
    · simp only [Bool.not_eq_true'] at c
      exact ⟨_, rfl, mkO_of ⟨_, rfl, fun d hd => q0 (fun h => by rw [c] at h; cases h.2) d hd⟩⟩
    simp only [Bool.not_eq_true', Bool.not_eq_false] at c
    have vm := vd.back hz c
    walk_at "st"
    refine ⟨_, rfl, x, A 11, dx, _, _, rfl, hx, T.cl_Part, T.n_Part_hidden, rfl, h1, rfl, ⟨_, SqT.of eh⟩, fun p hp => lc_it walk_tup (fun i H' => H' p = some (.lst ((((srtL hi).take i).filter fun t => !decide (t = z)).map V.str)) ∧ Kp [] H H')
      ⟨upd_same, Kp.new hp⟩ (fun i H' _ k => k.2.sqT (SqT.of eh)) ?_ ?_⟩
    · rintro i v H1 H2 hi' ⟨e1, k1⟩ ⟨rfl, hv⟩
      rw [List.getElem?_map] at hv
      obtain ⟨y, hy, rfl⟩ := Option.map_eq_some_iff.mp hv
      have st : ((srtL hi).take (i + 1)).filter (fun t => !decide (t = z)) = ((srtL hi).take i).filter (fun t => !decide (t = z)) ++ (if y = z then [] else [y]) := by
        rw [List.take_add_one, hy, Option.toList_some, List.filter_append]
        by_cases e : y = z
        · simp [e]
        · simp [e]
      refine gnK ⟨rfl, ?_⟩
      refine ⟨_, rfl, _, rfl, rfl, _, rfl, ?_⟩
      refine ite2 (fun c => ?_) (fun c => ?_)
      · have e : y ≠ z := by simpa using c
        have fl : ((((srtL hi).take i).filter fun t => !decide (t = z)).map V.str).length ≤ 60 := by
          rw [List.length_map]
          refine Nat.le_trans (List.length_filter_le _ _) ?_
          rw [List.length_take, srtL_len]; omega
        refine ⟨_, rfl, _, e1, szl (by omega), ?_, k1.put hp⟩
        · rw [upd_same, st, if_neg e, List.map_append]; rfl
      · have e : y = z := by simpa using c
        exact ⟨by rw [st, if_pos e, List.append_nil]; exact e1, k1⟩
    rintro H1 ⟨e1, k1⟩
    rw [List.length_map, List.take_length] at e1
    have hx1 := k1.get hx (.inl List.not_mem_nil)
    have es1 := k1.get es (.inr rfl)
    have ec1 := k1.get ec (.inr rfl)
    refine ⟨_, rfl, x, A 11, dx, _, _, rfl, hx1, T.cl_Part, T.n_Part_word, rfl, _, rfl, x, A 11, dx, _, _, rfl, hx1, T.cl_Part, T.n_Part_name, rfl, ?_⟩
    refine ⟨_, rfl, x, A 11, dx, _, _, rfl, hx1, T.cl_Part, T.n_Part_shown, rfl, ?_⟩
    have lens : ((srtL hi).filter fun t => !decide (t = z)).length ≤ hi.length := by
      refine Nat.le_trans (List.length_filter_le _ _) ?_
      rw [srtL_len]; exact Nat.le_refl _
    have fin : ∀ (r : Addr) (H2 : Hp), Kp [] H1 H2 → H2 r = some (.tup ((srtL sh).map V.str ++ [.str z])) → ∀ y dy, H2 y = none → H2 dy = none → dy ≠ y → ∀ E' : XK,
        sp_Part___init__ K (A 2) (A 3) (A 11) [.ref y, .str wd, .str n, .ref r, .ref p, .ref c1] (upd (upd H2 dy (.own y)) y (.ins (A 11) dy [])) (fun v H3 => v = .non ∧ Q (.ref y) H3) E' := fun r H2 k2 er y dy hy hdy ne E' => by
      refine mk_part hy hdy ne (sh := srtL sh ++ [z]) (.inr (by rw [er]; simp)) (.inl (k2.get e1 (.inl List.not_mem_nil))) (.inr (k2.get ec1 (.inr rfl))) (by simp [srtL_len]; omega) (fun t h => ?_) hc vm fun H3 k3 p3 => q1 hz c y H3 (k1.trans (k2.trans k3)) (p3.congr ((srtL_perm sh).append (.refl _)) ((srtL_perm hi).filter _))
      rcases List.mem_append.mp h with h | h
      · rcases List.mem_append.mp h with h | h
        · exact ht t (List.mem_append_left _ ((srtL_perm sh).mem_iff.mp h))
        · rw [List.mem_singleton.mp h]; exact zl
      · exact ht t (List.mem_append_right _ ((srtL_perm hi).mem_iff.mp (List.mem_filter.mp h).1))
    refine ⟨_, rfl, sz (by simp), fun t hnt => ?_⟩
    have kt := fun o => Kp.new (A := []) (o := o) hnt
    refine ⟨s1, t, _, _, rfl, rfl, SqT.of ((kt _).get es1 (.inr rfl)), SqT.of upd_same, sz (by simp [srtL_len]; omega), fun e0 => ?_, fun _ e => by simp at e, fun _ _ r hr => ?_⟩
    · exact ⟨_, rfl, _, rfl, x, A 11, dx, _, _, rfl, (kt _).get hx1 (.inl List.not_mem_nil), T.cl_Part, T.n_Part_constraints, rfl, fun y dy hy hdy ne => fin t _ (kt _) (by rw [upd_same, e0]; rfl) y dy hy hdy ne _⟩
    · have kr := (kt _).trans (Kp.new (A := []) (o := .tup ((srtL sh).map V.str ++ [.str z])) hr)
      exact ⟨_, rfl, _, rfl, x, A 11, dx, _, _, rfl, kr.get hx1 (.inl List.not_mem_nil), T.cl_Part, T.n_Part_constraints, rfl, fun y dy hy hdy ne => fin r _ kr upd_same y dy hy hdy ne _⟩
def sp_Part_with_constraints (K : PySem.W.Frag) (C : Addr) : Sp := fun vs H Q E => ∃ (x ca : Addr) (wd n : Str) (sh hi : List Str) (cvs cv2 : List V), vs = [.ref x, .ref ca] ∧ PartV C H x wd n sh hi cvs ∧ Sh H ca cv2 ∧ cv2.length ≤ 100 ∧
  ∀ y H', Kp [] H H' → PartAt C H' y wd n sh hi cv2 → Q (.ref y) H'
theorem ok_Part_with_constraints (T : Txt K mg A D) : FnOk P w K mg base (L2.CX P w) 5 (A 1229) (D 1229) ["self", "constraints"] (sp_Part_with_constraints K (A 11)) := by
  refine T.F_Part_with_constraints.okX sc_Part_with_constraints (fun vs H Q E h => ?_) (fun cdv A' outer s H vs Q E hr h => ?_)
  · obtain ⟨x, ca, wd, n, sh, hi, cvs, cv2, rfl, ⟨⟨dx, s1, h1, c1, hx, es, eh, ec⟩, vd, hl, ht, hc⟩, hca, hc2, q⟩ := h
    rfl
  · obtain ⟨x, ca, wd, n, sh, hi, cvs, cv2, rfl, ⟨⟨dx, s1, h1, c1, hx, es, eh, ec⟩, vd, hl, ht, hc⟩, hca, hc2, q⟩ := h
    have hu := hu_of hr
    have G_Part___init__ : FnOk P w K mg base (L2.CX P w) 3 (A 1220) (D 1220) ["self", "word", "name", "shown", "hidden", "constraints"] (sp_Part___init__ K (A 2) (A 3) (A 11)) := ok_Part___init__ T
    refine ⟨_, (pss_one (ps_ret (pe_makeO T.mk_Part G_Part___init__ (hr.mono (by decide)) rfl T.g_Part T.b_Part___init__ .nil (fun σ => passAt (takes_of rfl rfl rfl rfl) σ) (pa_cons (pe_fld (pv 0) rfl) (pa_cons (pe_fld (pv 0) rfl) (pa_cons (pe_fld (pv 0) rfl) (pa_cons (pe_fld (pv 0) rfl) (pa_cons (pv 1) pa_nil)))))))), ?_⟩
    walk_at "st"
    refine ⟨_, rfl, x, A 11, dx, _, _, rfl, hx, T.cl_Part, T.n_Part_word, rfl, _, rfl, x, A 11, dx, _, _, rfl, hx, T.cl_Part, T.n_Part_name, rfl, _, rfl, x, A 11, dx, _, _, rfl, hx, T.cl_Part, T.n_Part_shown, rfl, _, rfl, x, A 11, dx, _, _, rfl, hx, T.cl_Part, T.n_Part_hidden, rfl, _, rfl, fun y dy hy hdy ne => ?_⟩
    exact mk_part hy hdy ne (.inr es) (.inr eh) hca (by simp [srtL_len]; omega) (fun t h => ht t (((srtL_perm sh).append (srtL_perm hi)).mem_iff.mp h)) hc2 vd.sort fun H3 k3 p3 => q y H3 k3 (p3.congr (srtL_perm sh) (srtL_perm hi))
def sp_Part_called (K : PySem.W.Frag) (CN C : Addr) : Sp := fun vs H Q E => ∃ (x : Addr) (m wd n : Str) (sh hi : List Str) (cvs : List V), vs = [.ref x, .str m] ∧ PartV C H x wd n sh hi cvs ∧ m.length ≤ 1000 ∧
  (isName m = false → ∀ d H1, Kp [] H H1 → H1 d = none → E (.ref CN) (some d) (upd H1 d (.xd [("name", .str m)]))) ∧
  (isName m = true → ∀ y H', Kp [] H H' → PartAt C H' y wd m sh hi cvs → Q (.ref y) H')
theorem ok_Part_called (T : Txt K mg A D) : FnOk P w K mg base (L2.CX P w) 5 (A 1230) (D 1230) ["self", "name"] (sp_Part_called K (A 2) (A 11)) := by
  refine T.F_Part_called.okX sc_Part_called (fun vs H Q E h => ?_) (fun cdv A' outer s H vs Q E hr h => ?_)
  · obtain ⟨x, m, wd, n, sh, hi, cvs, rfl, ⟨⟨dx, s1, h1, c1, hx, es, eh, ec⟩, vd, hl, ht, hc⟩, ml, q0, q1⟩ := h
    rfl
  · obtain ⟨x, m, wd, n, sh, hi, cvs, rfl, ⟨⟨dx, s1, h1, c1, hx, es, eh, ec⟩, vd, hl, ht, hc⟩, ml, q0, q1⟩ := h
    have hu := hu_of hr
    have G_Part___init__ : FnOk P w K mg base (L2.CX P w) 3 (A 1220) (D 1220) ["self", "word", "name", "shown", "hidden", "constraints"] (sp_Part___init__ K (A 2) (A 3) (A 11)) := ok_Part___init__ T
    refine ⟨_, (pss_one (ps_ret (pe_makeO T.mk_Part G_Part___init__ (hr.mono (by decide)) rfl T.g_Part T.b_Part___init__ .nil (fun σ => passAt (takes_of rfl rfl rfl rfl) σ) (pa_cons (pe_fld (pv 0) rfl) (pa_cons (pv 1) (pa_cons (pe_fld (pv 0) rfl) (pa_cons (pe_fld (pv 0) rfl) (pa_cons (pe_fld (pv 0) rfl) pa_nil)))))))), ?_⟩
    walk_at "st"
    refine ⟨_, rfl, x, A 11, dx, _, _, rfl, hx, T.cl_Part, T.n_Part_word, rfl, _, rfl, _, rfl, x, A 11, dx, _, _, rfl, hx, T.cl_Part, T.n_Part_shown, rfl, _, rfl, x, A 11, dx, _, _, rfl, hx, T.cl_Part, T.n_Part_hidden, rfl, _, rfl, x, A 11, dx, _, _, rfl, hx, T.cl_Part, T.n_Part_constraints, rfl, fun y dy hy hdy ne => ?_⟩
    have hw : ∀ t ∈ srtL sh ++ srtL hi, t.length ≤ 1000 := fun t h => ht t (((srtL_perm sh).append (srtL_perm hi)).mem_iff.mp h)
    refine mk_partE hy hdy ne (.inr es) (.inr eh) (.inr ec) (by simp [srtL_len]; omega) ml hw hc (fun t b d H1 k hd => ?_) (fun b t e => ?_) fun b e H3 k3 p3 => ?_
    · have vs := vd.sort
      have hm : isName m = false := by
        cases e : isName m with
        | false => rfl
        | true => have := (⟨e, vs.hs, vs.hh, vs.nd⟩ : Vd m (srtL sh) (srtL hi)).bad; rw [this] at b; cases b
      have : badNm m (srtL sh) (srtL hi) = some m := bad_first (i := 0) rfl (fun j b h => absurd h (by omega)) hm
      rw [this] at b; cases b
      exact q0 hm d H1 k hd
    · rw [vd.sort.dup] at e; cases e
    · have hm := (vd_of b e).hn
      exact q1 hm y H3 k3 (p3.congr (srtL_perm sh) (srtL_perm hi))
def sp_Part_bare (K : PySem.W.Frag) (C : Addr) : Sp := fun vs H Q E => ∃ (wd n : Str), vs = [.ref C, .str wd, .str n] ∧ isName n = true ∧
  ∀ y H', Kp [] H H' → PartAt C H' y wd n [] [] [] → Q (.ref y) H'
theorem ok_Part_bare (T : Txt K mg A D) : FnOk P w K mg base (L2.CX P w) 5 (A 1221) (D 1221) ["cls", "word", "name"] (sp_Part_bare K (A 11)) := by
  refine T.F_Part_bare.okX sc_Part_bare (fun vs H Q E h => ?_) (fun cdv A' outer s H vs Q E hr h => ?_)
  · obtain ⟨wd, n, rfl, hn, q⟩ := h
    rfl
  · obtain ⟨wd, n, rfl, hn, q⟩ := h
    have hu := hu_of hr
    have G_Part___init__ : FnOk P w K mg base (L2.CX P w) 3 (A 1220) (D 1220) ["self", "word", "name", "shown", "hidden", "constraints"] (sp_Part___init__ K (A 2) (A 3) (A 11)) := ok_Part___init__ T
    refine ⟨_, (pss_one (ps_ret (pe_makeL (i := 0) T.mk_Part G_Part___init__ (hr.mono (by decide)) rfl (by first | exact .inl rfl | exact .inr (.inl rfl)) T.b_Part___init__ .nil (fun σ => passAt (takes_of rfl rfl rfl rfl) σ) (pa_cons (pv 1) (pa_cons (pv 2) (pa_cons (pe_tup pa_nil) (pa_cons (pe_tup pa_nil) (pa_cons (pe_tup pa_nil) pa_nil)))))))), ?_⟩
    walk_at "st"
    refine ⟨rfl, _, rfl, _, rfl, sz (by simp), fun t1 h1 => ⟨sz (by simp), fun t2 h2 => ⟨sz (by simp), fun t3 h3 => fun y dy hy hdy ne => ?_⟩⟩⟩
    have k3 := Kp.new (A := []) (o := .tup []) h3
    have k23 := (Kp.new (A := []) (o := .tup []) h2).trans k3
    exact mk_part (sh := []) (hi := []) hy hdy ne (.inr (k23.get upd_same (.inr rfl))) (.inr (k3.get upd_same (.inr rfl))) (.inr upd_same) (by simp) (by simp) (by simp) ⟨hn, by simp, by simp, by simp⟩ fun H3 k p3 => q y H3 (((Kp.new h1).trans k23).trans k) p3
def sp__law_plain (K : PySem.W.Frag) : Sp := fun vs H Q _ => ∃ (a : Addr), vs = [.ref a] ∧ Src H a ∧ ∀ (s : Str) H', isName s = true → Kp [a] H H' → Src H' a → Q (.str s) H'
theorem ok__law_plain (T : Txt K mg A D) : FnOk P w K mg base CX0 2 (A 15) (D 15) ["_law_source_here"] (sp__law_plain K) := by
  refine T.F__law_plain.ok sc__law_plain (fun vs H Q E h => ?_) (fun cdv A' outer s H vs Q E hr h => ?_)
  · obtain ⟨a, rfl, hs, q⟩ := h
    rfl
  · obtain ⟨a, rfl, hs, q⟩ := h
    have hu := hu_of hr
    have G__law_draw : FnOk P w K mg base CX0 1 (A 14) (D 14) ["_law_source_here", "_law_limit"] (sp__law_draw K) := ok__law_draw T
    refine ⟨_, (pss_one (ps_ret (pe_ix (xK_list (K := K) rfl) (pe_lst (pa_cons pe_str (pa_cons pe_str (pa_cons pe_str (pa_cons pe_str (pa_cons pe_str (pa_cons pe_str (pa_cons pe_str (pa_cons pe_str pa_nil))))))))) (pe_call G__law_draw (hr.mono (by decide)) rfl T.g__law_draw T.F__law_draw.kp T.b__law_draw .nil pass0 (pa_cons (pv 0) (pa_cons pe_int pa_nil))) (fun _ _ => rfl)))), ?_⟩
    walk_at "st"
    refine ⟨sz (by simp), fun l hl => ?_⟩
    have la := src_ne hs hl
    refine ⟨_, rfl, a, 8, rfl, hs.kp (Kp.new (A := []) hl) List.not_mem_nil, by decide, by decide, fun r H1 r0 r1 k1 s1 => ?_⟩
    obtain ⟨m, hm, hat⟩ := at_list (xs := [V.str "a", .str "b", .str "a1", .str "ab", .str "c9", .str "zz", .str "q", .str "abcdefgh"]) r0 r1
    refine ⟨l, _, _, _, rfl, rfl, SqL.of (k1.get upd_same (.inl (by simpa using la))), hat, ?_⟩
    simp only [List.mem_cons, List.not_mem_nil, or_false] at hm
    have k := (Kp.new (A := [a]) (o := .lst [V.str "a", .str "b", .str "a1", .str "ab", .str "c9", .str "zz", .str "q", .str "abcdefgh"]) hl).trans k1
    rcases hm with h | h | h | h | h | h | h | h <;> subst h <;> exact q _ _ (by decide +kernel) k s1
def sp__law_names (K : PySem.W.Frag) : Sp := fun vs H Q _ => ∃ (a : Addr) (b : Bool), vs = [.ref a, .bl b] ∧ Src H a ∧ ∀ (ns : List Str) p H', ns.length ≤ 4 → (∀ t ∈ ns, t.length ≤ 100) → H p = none → Kp [a] H H' → Src H' a → H' p = some (.lst (ns.map V.str)) → Q (.ref p) H'
theorem ok__law_names (T : Txt K mg A D) : FnOk P w K mg base CX0 3 (A 16) (D 16) ["_law_source_here", "_law_dotted"] (sp__law_names K) := by
  refine T.F__law_names.ok sc__law_names (fun vs H Q E h => ?_) (fun cdv A' outer s H vs Q E hr h => ?_)
  · obtain ⟨a, b, rfl, hs, q⟩ := h
    rfl
  · obtain ⟨a, b, rfl, hs, q⟩ := h
    have hu := hu_of hr
    have G__law_draw : FnOk P w K mg base CX0 1 (A 14) (D 14) ["_law_source_here", "_law_limit"] (sp__law_draw K) := ok__law_draw T
    have G__law_plain : FnOk P w K mg base CX0 2 (A 15) (D 15) ["_law_source_here"] (sp__law_plain K) := ok__law_plain T
    refine ⟨_, (pss_cons (ps_set (i := 2) sc__law_names.nd rfl (Or.inl rfl) (pe_lst pa_nil))
      (pss_cons (ps_for PassesOwn.never rfl (pi_range1 rfl T.z_range (pa_cons (pe_call G__law_draw (hr.mono (by decide)) rfl T.g__law_draw T.F__law_draw.kp T.b__law_draw .nil pass0 (pa_cons (pv 0) (pa_cons pe_int pa_nil))) pa_nil)) (pg_name (i := 3) sc__law_names.nd rfl (Or.inl rfl))
        (pss_cons (ps_set (i := 4) sc__law_names.nd rfl (Or.inl rfl) (pe_call G__law_plain (hr.mono (by decide)) rfl T.g__law_plain T.F__law_plain.kp T.b__law_plain .nil pass0 (pa_cons (pv 0) pa_nil)))
        (C8.pss_cut (ps_if (PW.pt (pw_and (pt_val (pv 1)) (pw_and1 (pt_cmpR op_eq (pe_call G__law_draw (hr.mono (by decide)) rfl T.g__law_draw T.F__law_draw.kp T.b__law_draw .nil pass0 (pa_cons (pv 0) (pa_cons pe_int pa_nil))) pe_int (nomark _)))))
          (pss_one (ps_set (i := 4) sc__law_names.nd rfl (Or.inl rfl) (pe_op op_add_str (pe_op op_add_str (pv 4) pe_str) (pe_call G__law_plain (hr.mono (by decide)) rfl T.g__law_plain T.F__law_plain.kp T.b__law_plain .nil pass0 (pa_cons (pv 0) pa_nil)))))
          pss_nil)
        (C8.pss_cut (ps_if (PW.pt (pw_and (pt_cmpR op_gt (pe_call G__law_draw (hr.mono (by decide)) rfl T.g__law_draw T.F__law_draw.kp T.b__law_draw .nil pass0 (pa_cons (pv 0) (pa_cons pe_int pa_nil))) pe_int (nomark _)) (pw_and1 (pt_cmpR (oK_in (K := K) rfl) (pv 4) (pv 2) rfl))))
          (pss_one (ps_set (i := 4) sc__law_names.nd rfl (Or.inl rfl) (pe_ix (xK_list (K := K) rfl) (pe_lst (pa_cons pe_str (pa_cons pe_str (pa_cons pe_str (pa_cons pe_str (pa_cons pe_str pa_nil)))))) (pv 3) (fun _ _ => rfl))))
          pss_nil)
        (pss_one (ps_expr (pe_bm PySem.F.plainAttrs_list PySem.F.slot_list_append PySem.F.type_list_append mt_append (pv 2) (pa_cons (pv 4) pa_nil))))))))
      (C8.pss_cut (ps_if (PW.pt (pw_and (pt_cmpR op_eq (pe_call G__law_draw (hr.mono (by decide)) rfl T.g__law_draw T.F__law_draw.kp T.b__law_draw .nil pass0 (pa_cons (pv 0) (pa_cons pe_int pa_nil))) pe_int (nomark _)) (pw_and1 (pt_cmpR op_gt (pe_callB (id := "len") (cK_len (K := K) rfl) (by rfl) T.z_len (by decide +kernel) (pa_cons (pv 2) pa_nil)) pe_int (nomark _)))))
        (pss_cons (ps_set (i := 5) sc__law_names.nd rfl (Or.inl rfl) (pe_ix (xK_list (K := K) rfl) (pe_lst (pa_cons pe_str (pa_cons pe_str (pa_cons pe_str (pa_cons pe_str (pa_cons pe_str (pa_cons pe_str (pa_cons pe_str (pa_cons pe_str (pa_cons pe_str (pa_cons pe_str (pa_cons pe_str pa_nil)))))))))))) (pe_call G__law_draw (hr.mono (by decide)) rfl T.g__law_draw T.F__law_draw.kp T.b__law_draw .nil pass0 (pa_cons (pv 0) (pa_cons pe_int pa_nil))) (fun _ _ => rfl)))
        (pss_one (ps_asg (pv 5) (pg_sub (pv 2) (pe_call G__law_draw (hr.mono (by decide)) rfl T.g__law_draw T.F__law_draw.kp T.b__law_draw .nil pass0 (pa_cons (pv 0) (pa_cons (pe_callB (id := "len") (cK_len (K := K) rfl) (by rfl) T.z_len (by decide +kernel) (pa_cons (pv 2) pa_nil)) pa_nil))) set_list))))
        pss_nil)
      (pss_one (ps_ret (pv 2)))))), ?_⟩
    walk_at "st"
    refine ⟨sz (by simp), fun p hp => ?_⟩
    have pa := src_ne hs hp
    have nip : p ∉ [a] := by simpa using pa
    have s0 : Src (upd H p (.lst [])) a := hs.kp (Kp.new (A := []) hp) List.not_mem_nil
    refine seq_forK ?_
    refine ⟨_, rfl, a, 5, rfl, s0, by decide, by decide, fun r0 H0 r00 r01 k0 s0' => ?_⟩
    refine ⟨_, rfl, by omega, by omega, for_seq walk_range (fun i σ H' => ∃ (ns : List Str) (v3 v4 v5 : Option V), σ = [some (.ref a), some (.bl b), some (.ref p), v3, v4, v5] ∧ H' p = some (.lst (ns.map V.str)) ∧ ns.length = i ∧ (∀ t ∈ ns, t.length ≤ 100) ∧ Kp [a] H H' ∧ Src H' a)
      ⟨[], _, _, _, rfl, k0.get upd_same (.inl nip), rfl, by simp, (Kp.new (A := []) hp).nil.trans k0, s0'⟩ (fun _ _ _ _ _ => trivial) ?_ ?_⟩
    · rintro i x σ H1 H2 hi' ⟨ns, v3, v4, v5, rfl, e1, el, ht, k1, s1⟩ ⟨rfl, rfl⟩
      refine gnK ?_
      walk_at "st"
      refine ⟨_, rfl, a, rfl, s1, fun z H3 hz k3 s3 => ?_⟩
      have zl : z.length ≤ 8 := (isName_len hz).2
      refine cutK (fun σ H' => ∃ z : Str, σ = [some (.ref a), some (.bl b), some (.ref p), some (.int (0 + (i : Int))), some (.str z), v5] ∧ z.length ≤ 50 ∧ Kp [a] H2 H' ∧ Src H' a) ?_ ?_
      · refine if_anK ?_
        refine ⟨_, rfl, _, rfl, ?_⟩
        cases b with
        | false => exact iteF ⟨z, rfl, by omega, k3, s3⟩
        | true =>
          refine iteT ?_
          refine ⟨_, rfl, a, 3, rfl, s3, by decide, by decide, fun r H4 a0 a1 k4 s4 => ?_⟩
          refine ⟨rfl, _, rfl, ?_⟩
          refine ite2 (fun _ => ?_) (fun _ => ?_)
          · walk_at "st"
            refine ⟨_, rfl, _, _, rfl, rfl, ?_, _, rfl, a, rfl, s4, fun y H5 hy k5 s5 => ?_⟩
            · rw [show (".": Str).length = 1 by decide +kernel]; exact sz (by omega)
            have yl := (isName_len hy).2
            refine ⟨_, _, rfl, rfl, ?_, z ++ ("." : Str) ++ y, rfl, ?_, (k3.trans k4).trans k5, s5⟩
            · rw [strLen_append, show (".": Str).length = 1 by decide +kernel]; exact sz (by omega)
            · rw [strLen_append, strLen_append, show (".": Str).length = 1 by decide +kernel]; omega
          · exact ⟨z, rfl, by omega, k3.trans k4, s4⟩
      clear hz zl k3 s3
      rintro σ H3 ⟨z, rfl, zl, k3, s3⟩
      refine cutK (fun σ H' => ∃ z : Str, σ = [some (.ref a), some (.bl b), some (.ref p), some (.int (0 + (i : Int))), some (.str z), v5] ∧ z.length ≤ 50 ∧ Kp [a] H2 H' ∧ Src H' a) ?_ ?_
      · refine if_anK ?_
        refine ⟨_, rfl, a, 4, rfl, s3, by decide, by decide, fun r H4 a0 a1 k4 s4 => ?_⟩
        have e4 := (k3.trans k4).get e1 (.inl nip)
        refine ⟨_, _, rfl, rfl, _, rfl, ?_⟩
        refine ite2 (fun _ => ?_) (fun _ => ?_)
        · refine ⟨_, rfl, _, rfl, p, _, rfl, .inl (SqL.of e4), rfl, flat_strs _, _, rfl, ?_⟩
          rw [if_neg Bool.false_ne_true, inV_strs]
          refine ite2 (fun _ => ?_) (fun _ => ?_)
          · walk_at "st"
            refine ⟨sz (by simp), fun l hl => ?_⟩
            obtain ⟨m, hm, hat⟩ := at_list (xs := [V.str "d", .str "e", .str "f", .str "g", .str "h"]) (r := 0 + (i : Int)) (by omega) (by show _ < (5 : Int); omega)
            simp only [List.mem_cons, List.not_mem_nil, or_false] at hm
            obtain ⟨y, rfl, yl⟩ : ∃ y : Str, m = .str y ∧ y.length ≤ 50 := by
              rcases hm with h | h | h | h | h <;> exact ⟨_, h, by decide +kernel⟩
            refine ⟨_, rfl, l, _, _, _, rfl, rfl, SqL.of upd_same, hat, y, rfl, yl, (k3.trans k4).trans (Kp.new hl), s4.kp (Kp.new (A := []) hl) List.not_mem_nil⟩
          · exact ⟨z, rfl, zl, k3.trans k4, s4⟩
        · refine iteF ?_
          exact ⟨z, rfl, zl, k3.trans k4, s4⟩
      clear k3 s3 zl
      rintro σ H4 ⟨z, rfl, zl, k4, s4⟩
      have e4 := k4.get e1 (.inl nip)
      walk_at "st"
      refine ⟨_, rfl, .inl ⟨rfl, _, SqL.of e4⟩, _, rfl, p, _, _, rfl, rfl, e4, szl (by rw [List.length_map]; omega), ?_⟩
      refine ⟨ns ++ [z], _, _, _, rfl, by rw [upd_same, List.map_append]; rfl, by simp [el], fun t h => ?_, (k1.trans k4).put hp, s4.kp (Kp.own (A := [p]) e4 rfl (by simp)) (by simpa using pa.symm)⟩
      rcases List.mem_append.mp h with h | h
      · exact ht t h
      · rw [List.mem_singleton.mp h]; omega
    rintro σ H1 ⟨ns, v3, v4, v5, rfl, e1, el, ht, k1, s1⟩
    have l4 : ns.length ≤ 4 := by omega
    refine cutK (fun σ H' => ∃ (ns : List Str) (v5 : Option V), σ = [some (.ref a), some (.bl b), some (.ref p), v3, v4, v5] ∧ H' p = some (.lst (ns.map V.str)) ∧ ns.length ≤ 4 ∧ (∀ t ∈ ns, t.length ≤ 100) ∧ Kp [a] H H' ∧ Src H' a) ?_ ?_
    · refine if_anK ?_
      refine ⟨_, rfl, a, 6, rfl, s1, by decide, by decide, fun r H2 a0 a1 k2 s2 => ?_⟩
      have e2 := k2.get e1 (.inl nip)
      refine ⟨rfl, _, rfl, ?_⟩
      refine ite2 (fun _ => ?_) (fun _ => ?_)
      · refine ⟨_, rfl, _, ns.length, rfl, .inl ⟨_, SqL.of e2, by rw [List.length_map]⟩, _, _, rfl, rfl, _, rfl, ?_⟩
        refine ite2 (fun c => ?_) (fun _ => ?_)
        · have n0 : 0 < ns.length := by simpa using c
          walk_at "st"
          refine ⟨sz (by simp), fun l hl => ?_⟩
          have la := src_ne s2 hl
          refine ⟨_, rfl, a, 11, rfl, s2.kp (Kp.new (A := []) hl) List.not_mem_nil, by decide, by decide, fun r3 H3 b0 b1 k3 s3 => ?_⟩
          obtain ⟨m, hm, hat⟩ := at_list (xs := [V.str "", .str "A", .str "9a", .str "abcdefghi", .str "a b", .str "a_", .str "a..b", .str ".a", .str "a.", .str "a.B", .str "a.b"]) b0 b1
          simp only [List.mem_cons, List.not_mem_nil, or_false] at hm
          obtain ⟨y, rfl, yl⟩ : ∃ y : Str, m = .str y ∧ y.length ≤ 100 := by
            rcases hm with h | h | h | h | h | h | h | h | h | h | h <;> exact ⟨_, h, by decide +kernel⟩
          refine ⟨l, _, _, _, rfl, rfl, SqL.of (k3.get upd_same (.inl (by simpa using la))), hat, ?_⟩
          have e3 := ((Kp.new (A := [a]) (o := .lst [V.str "", .str "A", .str "9a", .str "abcdefghi", .str "a b", .str "a_", .str "a..b", .str ".a", .str "a.", .str "a.B", .str "a.b"]) hl).trans k3).get e2 (.inl nip)
          have k13 := (k1.trans k2).trans ((Kp.new (A := [a]) (o := .lst [V.str "", .str "A", .str "9a", .str "abcdefghi", .str "a b", .str "a_", .str "a..b", .str ".a", .str "a.", .str "a.B", .str "a.b"]) hl).trans k3)
          refine ⟨_, rfl, _, rfl, _, rfl, _, rfl, _, ns.length, rfl, .inl ⟨_, SqL.of e3, by rw [List.length_map]⟩, a, (ns.length : Nat), rfl, s3, by omega, by omega, fun r5 H5 c0 c1 k5 s5 => ?_⟩
          have e5 := k5.get e3 (.inl nip)
          obtain ⟨j, rfl⟩ := Int.eq_ofNat_of_zero_le c0
          have hj : j < ns.length := by omega
          refine ⟨p, _, _, j, rfl, rfl, e5, ?_, ?_⟩
          · rw [List.length_map]
            unfold ixN
            rw [if_pos (by omega), if_pos (by omega)]
            simp
          refine ⟨ns.set j y, _, rfl, by rw [upd_same, List.map_set], by simpa using l4, fun t h => ?_, (k13.trans k5).put hp, s5.kp (Kp.own (A := [p]) e5 rfl (by simp)) (by simpa using pa.symm)⟩
          rcases List.mem_or_eq_of_mem_set h with h | h
          · exact ht t h
          · rw [h]; exact yl
        · exact ⟨ns, _, rfl, e2, l4, ht, k1.trans k2, s2⟩
      · refine iteF ?_
        exact ⟨ns, _, rfl, e2, l4, ht, k1.trans k2, s2⟩
    rintro σ H2 ⟨ns', v5', rfl, e2, l2, ht2, k2, s2⟩
    walk_at "st"
    exact ⟨_, rfl, q ns' p _ l2 ht2 hp k2 s2 e2⟩
def sp__law_is_name (K : PySem.W.Frag) : Sp := fun vs H Q _ => ∃ (s : Str), vs = [.str s] ∧ s.length ≤ 100000 ∧ Q (.bl (isName s)) H
theorem ok__law_is_name (T : Txt K mg A D) : FnOk P w K mg base CX0 1 (A 17) (D 17) ["_law_text"] (sp__law_is_name K) := by
  refine T.F__law_is_name.ok sc__law_is_name (fun vs H Q E h => ?_) (fun cdv A' outer s H vs Q E hr h => ?_)
  · obtain ⟨x, rfl, xl, q⟩ := h
    rfl
  · obtain ⟨x, rfl, xl, q⟩ := h
    have hu := hu_of hr
    refine ⟨_, (pss_cons (ps_if (PW.pt (pw_or (pt_cmpR op_eq (pv 0) pe_str (nomark _)) (pw_or (pt_cmpR op_gt (pe_callB (id := "len") call_len_str (by rfl) T.z_len (by decide +kernel) (pa_cons (pv 0) pa_nil)) pe_int (nomark _)) (pw_or1 (pt_cmpR op_notIn_sign (pe_ix ix_str (pv 0) pe_int (fun _ _ => rfl)) pe_str rfl)))))
        (pss_one (ps_ret pe_bl))
        pss_nil)
      (pss_cons (ps_for PassesOwn.never rfl (pi_str (pv 0)) (pg_name (i := 1) sc__law_is_name.nd rfl (Or.inl rfl))
        (pss_one (ps_if (pt_cmpR op_notIn_sign (pv 1) pe_str rfl)
          (pss_one (ps_ret pe_bl))
          pss_nil)))
      (pss_one (ps_ret pe_bl)))), ?_⟩
    have tlE : TL.tl ("" : Str) = [] := by decide +kernel
    refine seq_ifK0 ?_
    refine ⟨_, rfl, rfl, _, rfl, ?_⟩
    refine ite2 (fun c1 => ?_) (fun c1 => ?_)
    · refine iteT ?_
      have ex : x = "" := by simpa using c1
      exact asB q (by rw [ex]; unfold isName; rw [tlE]; rfl)
    have ex : x ≠ "" := by simpa using c1
    have l1 : 0 < x.length := by
      rcases Nat.eq_zero_or_pos x.length with z | z
      · exfalso
        apply ex
        refine TL.ext_tl ?_
        rw [TL.len_tl] at z
        rw [List.length_eq_zero_iff.mp z, tlE]
      · exact z
    obtain ⟨c, hc, hat⟩ := atS l1
    refine ⟨_, rfl, x, rfl, sz xl, _, _, rfl, rfl, _, rfl, ?_⟩
    refine ite2 (fun c2 => ?_) (fun c2 => ?_)
    · refine iteT ?_
      exact asB q (isName_no fun z => by simp at c2; omega)
    have l8 : x.length ≤ 8 := by simp at c2; omega
    refine ⟨_, rfl, _, _, c, rfl, rfl, sz xl, hat, _, _, rfl, rfl, _, rfl, ?_⟩
    rw [mem_let]
    refine ite2 (fun c3 => ?_) (fun c3 => ?_)
    · simp only [Bool.not_eq_true'] at c3
      exact asB q (by rw [isName_at hc l8, c3]; rfl)
    simp only [Bool.not_eq_true', Bool.not_eq_false] at c3
    refine seq_forK ?_
    refine ⟨_, rfl, _, rfl, for_seq walk_str (fun k σ H' => H' = H ∧ (∃ w, σ = [some (.str x), w]) ∧ ∀ j c, j < k → x.cps[j]? = some c → (isLet c || isDig c) = true) ⟨rfl, ⟨_, rfl⟩, fun j c z => by omega⟩ (fun _ _ _ _ _ => trivial) ?_ ?_⟩
    · rintro k y σ H3 H4 hk ⟨rfl, ⟨w, rfl⟩, hal⟩ ⟨rfl, d, hd, rfl⟩
      refine gnK ?_
      refine if_anK ?_
      refine ⟨_, rfl, _, _, rfl, rfl, _, rfl, ?_⟩
      rw [mem_ld]
      refine ite2 (fun c5 => ?_) (fun c5 => ?_)
      · simp only [Bool.not_eq_true'] at c5
        walk_at "st"
        exact asB q (by rw [isName_at hc l8, all_false hd c5, Bool.and_false])
      · simp only [Bool.not_eq_true', Bool.not_eq_false] at c5
        refine nextK ⟨rfl, ⟨_, rfl⟩, fun j z hj e => ?_⟩
        rcases Nat.lt_succ_iff_lt_or_eq.mp hj with h | h
        · exact hal j z h e
        · subst h
          rw [hd] at e; cases e
          exact c5
    · rintro σ H3 ⟨rfl, ⟨w, rfl⟩, hal⟩
      walk_at "st"
      refine asB q ?_
      rw [isName_at hc l8, c3, Bool.true_and]
      exact all_true fun j z e => hal j z (Array.getElem?_eq_some_iff.mp e).1 e
def sp__law_is_full (K : PySem.W.Frag) : Sp := fun vs H Q _ => ∃ (s : Str), vs = [.str s] ∧ s.length ≤ 100000 ∧ ∀ H', Kp [] H H' → Q (.bl (isFull s)) H'
theorem ok__law_is_full (T : Txt K mg A D) : FnOk P w K mg base CX0 2 (A 18) (D 18) ["_law_text"] (sp__law_is_full K) := by
  refine T.F__law_is_full.ok sc__law_is_full (fun vs H Q E h => ?_) (fun cdv A' outer s H vs Q E hr h => ?_)
  · obtain ⟨s, rfl, hs, q⟩ := h
    rfl
  · obtain ⟨s, rfl, hs, q⟩ := h
    have hu := hu_of hr
    have G__law_is_name : FnOk P w K mg base CX0 1 (A 17) (D 17) ["_law_text"] (sp__law_is_name K) := ok__law_is_name T
    refine ⟨_, (pss_cons (ps_for PassesOwn.never rfl (iK_list (K := K) rfl (pe_split (pv 0) pe_str)) (pg_name (i := 1) sc__law_is_full.nd rfl (Or.inl rfl))
        (pss_one (ps_if (pt_not (pt_val (pe_call G__law_is_name (hr.mono (by decide)) rfl T.g__law_is_name T.F__law_is_name.kp T.b__law_is_name .nil pass0 (pa_cons (pv 1) pa_nil))))
          (pss_one (ps_ret pe_bl))
          pss_nil)))
      (pss_one (ps_ret pe_bl))), ?_⟩
    refine ⟨_, rfl, ⟨_, rfl⟩, _, _, rfl, rfl, rfl, (by show s.length + 2 ≤ sizeLine; exact Nat.le_trans (Nat.add_le_add_right hs 2) (by decide)), fun p hp => ?_⟩
    have hL : SqL K (upd H p (.lst ((Txt.split s ".").map V.str))) p ((Txt.split s ".").map V.str) := SqL.of upd_same
    refine ⟨_, rfl, ⟨_, hL⟩, for_it walk_list (fun i σ H' => H' = upd H p (.lst ((Txt.split s ".").map V.str)) ∧ (∃ v, σ = [some (.str s), v]) ∧ ∀ (j : Nat) (x : Str), j < i → (Txt.split s ".")[j]? = some x → isName x = true) ⟨rfl, ⟨_, rfl⟩, fun j x z => by omega⟩ (fun i σ H' _ z => by rw [z.1]; exact hL) ?_ ?_⟩
    · rintro i v σ H1 H2 hi ⟨rfl, ⟨u, rfl⟩, hall⟩ ⟨rfl, hv⟩
      rw [List.getElem?_map] at hv
      obtain ⟨x, hx, rfl⟩ := Option.map_eq_some_iff.mp hv
      have hm : x ∈ Txt.split s "." := List.mem_of_getElem? hx
      refine ⟨_, rfl, x, rfl, Nat.le_trans (split_short hm) hs, _, rfl, ?_⟩
      refine ite2 (fun c => ?_) (fun c => ?_)
      · simp only [Bool.not_eq_true'] at c
        refine asB (q _ (Kp.new hp)) ?_
        cases e : isFull s with
        | false => rfl
        | true =>
          have := List.all_eq_true.mp e x hm
          rw [c] at this; cases this
      · simp only [Bool.not_eq_true', Bool.not_eq_false] at c
        refine ⟨rfl, ⟨_, rfl⟩, fun j y hj e => ?_⟩
        rcases Nat.lt_succ_iff_lt_or_eq.mp hj with z | z
        · exact hall j y z e
        · subst z
          rw [hx] at e; cases e
          exact c
    · rintro σ H1 ⟨rfl, ⟨v, rfl⟩, hall⟩
      refine asB (q _ (Kp.new hp)) (List.all_eq_true.mpr fun x hx => ?_)
      obtain ⟨j, hj⟩ := List.mem_iff_getElem?.mp hx
      exact hall j x (by rw [List.length_map]; exact (List.getElem?_eq_some_iff.mp hj).1) hj
def expV (n : Str) (sh hi : List Str) : List V := match badNm n sh hi with
  | some t => [.str "name", .str t]
  | none => match dupL (srtL (sh ++ hi)) with
    | some t => [.str "part", .str t]
    | none => [.str "none", .str ""]
def sp__law_expected_error (K : PySem.W.Frag) : Sp := fun vs H Q _ => ∃ (n : Str) (sa ha : Addr) (sh hi : List Str), vs = [.str n, .ref sa, .ref ha] ∧ H sa = some (.lst (sh.map V.str)) ∧ H ha = some (.lst (hi.map V.str)) ∧ sh.length + hi.length < 50 ∧ n.length ≤ 1000 ∧ (∀ t ∈ sh ++ hi, t.length ≤ 1000) ∧
  ∀ r H', Kp [] H H' → H' r = some (.tup (expV n sh hi)) → Q (.ref r) H'
theorem ok__law_expected_error (T : Txt K mg A D) : FnOk P w K mg base CX0 3 (A 19) (D 19) ["_law_name", "_law_shown", "_law_hidden"] (sp__law_expected_error K) := by
  refine T.F__law_expected_error.ok sc__law_expected_error (fun vs H Q E h => ?_) (fun cdv A' outer s H vs Q E hr h => ?_)
  · obtain ⟨n, sa, ha, sh, hi, rfl, hsa, hha, hl, hn, hw, q⟩ := h
    rfl
  · obtain ⟨n, sa, ha, sh, hi, rfl, hsa, hha, hl, hn, hw, q⟩ := h
    have hu := hu_of hr
    have G__law_is_name : FnOk P w K mg base CX0 1 (A 17) (D 17) ["_law_text"] (sp__law_is_name K) := ok__law_is_name T
    have G__law_is_full : FnOk P w K mg base CX0 2 (A 18) (D 18) ["_law_text"] (sp__law_is_full K) := ok__law_is_full T
    refine ⟨_, (pss_cons (ps_for PassesOwn.never rfl (iK_list (K := K) rfl (pe_op op_cat (pe_lst (pa_cons (pv 0) pa_nil)) (pv 1))) (pg_name (i := 3) sc__law_expected_error.nd rfl (Or.inl rfl))
        (pss_one (ps_if (pt_not (pt_val (pe_call G__law_is_name (hr.mono (by decide)) rfl T.g__law_is_name T.F__law_is_name.kp T.b__law_is_name .nil pass0 (pa_cons (pv 3) pa_nil))))
          (pss_one (ps_ret (pe_tup (pa_cons pe_str (pa_cons (pv 3) pa_nil)))))
          pss_nil)))
      (pss_cons (ps_for PassesOwn.never rfl (iK_list (K := K) rfl (pv 2)) (pg_name (i := 3) sc__law_expected_error.nd rfl (Or.inl rfl))
        (pss_one (ps_if (pt_not (pt_val (pe_call G__law_is_full (hr.mono (by decide)) rfl T.g__law_is_full T.F__law_is_full.kp T.b__law_is_full .nil pass0 (pa_cons (pv 3) pa_nil))))
          (pss_one (ps_ret (pe_tup (pa_cons pe_str (pa_cons (pv 3) pa_nil)))))
          pss_nil)))
      (pss_cons (ps_set (i := 4) sc__law_expected_error.nd rfl (Or.inl rfl) (pe_callB (id := "sorted") (cK_sortedS (K := K) rfl) (by rfl) T.z_sorted (by decide +kernel) (pa_cons (pe_op op_cat (pv 1) (pv 2)) pa_nil)))
      (pss_cons (ps_for PassesOwn.never rfl (pi_range2 rfl T.z_range (pa_cons pe_int (pa_cons (pe_callB (id := "len") (cK_len (K := K) rfl) (by rfl) T.z_len (by decide +kernel) (pa_cons (pv 4) pa_nil)) pa_nil))) (pg_name (i := 5) sc__law_expected_error.nd rfl (Or.inl rfl))
        (pss_one (ps_if (pt_cmpR op_eq (pe_ix (xK_list (K := K) rfl) (pv 4) (pe_op op_sub (pv 5) pe_int) (fun _ _ => rfl)) (pe_ix (xK_list (K := K) rfl) (pv 4) (pv 5) (fun _ _ => rfl)) (nomark _))
          (pss_one (ps_ret (pe_tup (pa_cons pe_str (pa_cons (pe_ix (xK_list (K := K) rfl) (pv 4) (pv 5) (fun _ _ => rfl)) pa_nil)))))
          pss_nil)))
      (pss_one (ps_ret (pe_tup (pa_cons pe_str (pa_cons pe_str pa_nil))))))))), ?_⟩
    have hwS : ∀ t ∈ sh, t.length ≤ 1000 := fun t h => hw t (List.mem_append_left _ h)
    have hwH : ∀ t ∈ hi, t.length ≤ 1000 := fun t h => hw t (List.mem_append_right _ h)
    have eb : ∀ t, badNm n sh hi = some t → expV n sh hi = [.str "name", .str t] := fun t e => by unfold expV; rw [e]
    refine seq_forK ?_
    refine ⟨_, rfl, sz (by simp), fun l0 h0 => ?_⟩
    have k0 := fun o => Kp.new (A := []) (o := o) h0
    refine ⟨_, rfl, l0, sa, [.str n], sh.map V.str, rfl, rfl, upd_same, (k0 _).get hsa (.inl List.not_mem_nil), sz (by simp; omega), fun t ht => ?_⟩
    have kt : Kp [] H (upd (upd H l0 (.lst [.str n])) t (.lst ([.str n] ++ sh.map V.str))) := (k0 _).trans (Kp.new ht)
    have et : (upd (upd H l0 (.lst [.str n])) t (.lst ([.str n] ++ sh.map V.str))) t = some (.lst ((n :: sh).map V.str)) := upd_same
    generalize upd (upd H l0 (.lst [.str n])) t (.lst ([.str n] ++ sh.map V.str)) = H1 at kt et
    refine ⟨t, rfl, ⟨_, SqL.of et⟩, for_seq (walk_list (xs := (n :: sh).map V.str)) (fun i σ H' => (∃ v3 : Option V, σ = [some (.str n), some (.ref sa), some (.ref ha), v3, none, none]) ∧
        H' = H1 ∧ ∀ j b, j < i → (n :: sh)[j]? = some b → isName b = true)
      ⟨⟨_, rfl⟩, rfl, fun j b h => absurd h (by omega)⟩ (fun i σ H' _ z => by rw [z.2.1]; exact SqL.of et) ?_ ?_⟩
    · rintro i v σ H2 H3 hi' ⟨⟨v3, rfl⟩, rfl, hall⟩ ⟨rfl, hv⟩
      rw [List.getElem?_map] at hv
      obtain ⟨z, hz, rfl⟩ := Option.map_eq_some_iff.mp hv
      have zl : z.length ≤ 1000 := by
        rcases List.mem_cons.mp (List.mem_of_getElem? hz) with e | e
        · rw [e]; exact hn
        · exact hwS z e
      refine gnK ?_
      refine if_anK ?_
      refine ⟨_, rfl, z, rfl, Nat.le_trans zl (by decide), _, rfl, ?_⟩
      refine ite2 (fun c => ?_) (fun c => ?_)
      · simp only [Bool.not_eq_true'] at c
        refine ⟨_, rfl, sz (by simp), fun r hr => q r _ (kt.trans (Kp.new hr)) ?_⟩
        rw [upd_same, eb z (bad_first hz hall c)]
      · simp only [Bool.not_eq_true', Bool.not_eq_false] at c
        refine nextK ⟨⟨_, rfl⟩, rfl, fun j b hj hb => ?_⟩
        rcases Nat.lt_succ_iff_lt_or_eq.mp hj with h | h
        · exact hall j b h hb
        · subst h; rw [hz] at hb; cases hb; exact c
    rintro σ H2 ⟨⟨v3, rfl⟩, rfl, hall⟩
    have f1 : (n :: sh).find? (fun t => !isName t) = none := find_none fun j b hj hb => by rw [hall j b (by simpa using hj) hb]; rfl
    clear hall
    have hha2 := kt.get hha (.inl List.not_mem_nil)
    have hsa2 := kt.get hsa (.inl List.not_mem_nil)
    refine seq_forK ?_
    refine ⟨_, rfl, ha, rfl, ⟨_, SqL.of hha2⟩, for_seq (walk_list (xs := hi.map V.str)) (fun i σ H' => (∃ v3 : Option V, σ = [some (.str n), some (.ref sa), some (.ref ha), v3, none, none]) ∧
        Kp [] H2 H' ∧ ∀ j b, j < i → hi[j]? = some b → isFull b = true)
      ⟨⟨_, rfl⟩, Kp.refl, fun j b h => absurd h (by omega)⟩ (fun i σ H' _ z => SqL.of (z.2.1.get hha2 (.inl List.not_mem_nil))) ?_ ?_⟩
    · rintro i v σ H3 H4 hi' ⟨⟨v3, rfl⟩, k4, hall⟩ ⟨rfl, hv⟩
      rw [List.getElem?_map] at hv
      obtain ⟨z, hz, rfl⟩ := Option.map_eq_some_iff.mp hv
      have zl := hwH z (List.mem_of_getElem? hz)
      refine gnK ?_
      refine if_anK ?_
      refine ⟨_, rfl, z, rfl, Nat.le_trans zl (by decide), fun H5 k5 => ⟨_, rfl, ?_⟩⟩
      refine ite2 (fun c => ?_) (fun c => ?_)
      · simp only [Bool.not_eq_true'] at c
        refine ⟨_, rfl, sz (by simp), fun r hr => q r _ (kt.trans (k4.trans (k5.trans (Kp.new hr)))) ?_⟩
        rw [upd_same, eb z (bad_second f1 hz hall c)]
      · simp only [Bool.not_eq_true', Bool.not_eq_false] at c
        refine nextK ⟨⟨_, rfl⟩, k4.trans k5, fun j b hj hb => ?_⟩
        rcases Nat.lt_succ_iff_lt_or_eq.mp hj with h | h
        · exact hall j b h hb
        · subst h; rw [hz] at hb; cases hb; exact c
    rintro σ H3 ⟨⟨v3', rfl⟩, k3, hall⟩
    have nb : badNm n sh hi = none := by
      unfold badNm
      rw [f1, find_none fun j b hj hb => by rw [hall j b (by simpa using hj) hb]; rfl]
      rfl
    clear hall f1
    have k03 := kt.trans k3
    walk_at "st"
    refine ⟨_, rfl, _, rfl, sa, ha, _, _, rfl, rfl, k03.get hsa (.inl List.not_mem_nil), k03.get hha (.inl List.not_mem_nil), sz (by simp; omega), fun l hl' => ?_⟩
    refine ⟨l, sh ++ hi, rfl, SqL.of (by rw [upd_same, List.map_append]), by simp; omega, fun ys p perm srt hp => ?_⟩
    have eys := srt_eq perm srt
    subst eys
    have yl := srtL_len (sh ++ hi)
    rw [List.length_append] at yl
    have k4 := (k03.trans (Kp.new (o := .lst (sh.map V.str ++ hi.map V.str)) hl')).trans (Kp.new (o := .lst ((srtL (sh ++ hi)).map V.str)) hp)
    have p4 : (upd (upd H3 l (.lst (sh.map V.str ++ hi.map V.str))) p (.lst ((srtL (sh ++ hi)).map V.str))) p = some (.lst ((srtL (sh ++ hi)).map V.str)) := upd_same
    generalize upd (upd H3 l (.lst (sh.map V.str ++ hi.map V.str))) p (.lst ((srtL (sh ++ hi)).map V.str)) = H4 at k4 p4
    have at4 : ∀ (j : Nat) (z : Str), (srtL (sh ++ hi))[j]? = some z → ∀ k : Int, k = (j : Int) → ∀ (Q : VK), Q (.str z) H4 → rIxL K (.ref p) (.int k) H4 Q := fun j z hz k ek Q q => ⟨p, _, _, _, rfl, rfl, SqL.of p4, by rw [ek]; exact atI_nat (by rw [List.getElem?_map, hz]; rfl), q⟩
    refine seq_forK ?_
    refine ⟨_, rfl, _, (srtL (sh ++ hi)).length, rfl, .inl ⟨_, SqL.of p4, by rw [List.length_map]⟩, _, _, rfl, by omega, for_seq walk_range (fun i σ H' => (∃ v5 : Option V, σ = [some (.str n), some (.ref sa), some (.ref ha), v3', some (.ref p), v5]) ∧
        H' = H4 ∧ dupL (srtL (sh ++ hi)) = dupL ((srtL (sh ++ hi)).drop i)) ⟨⟨_, rfl⟩, rfl, rfl⟩ (fun _ _ _ _ _ => trivial) ?_ ?_⟩
    · rintro i v σ H5 H6 hi' ⟨⟨v8, rfl⟩, rfl, hd⟩ ⟨rfl, rfl⟩
      obtain ⟨za, hza⟩ : ∃ z, (srtL (sh ++ hi))[i]? = some z := ⟨_, List.getElem?_eq_getElem (by omega)⟩
      obtain ⟨zb, hzb⟩ : ∃ z, (srtL (sh ++ hi))[i + 1]? = some z := ⟨_, List.getElem?_eq_getElem (by omega)⟩
      refine gnK ?_
      refine if_anK ?_
      refine ⟨_, rfl, _, rfl, _, _, rfl, rfl, at4 i za hza _ (by omega) _ ⟨_, rfl, _, rfl, at4 (i + 1) zb hzb _ (by omega) _ ⟨rfl, _, rfl, ?_⟩⟩⟩
      refine ite2 (fun c => ?_) (fun c => ?_)
      · have e : za = zb := by simpa using c
        refine ⟨_, rfl, _, rfl, at4 (i + 1) zb hzb _ (by omega) _ ⟨sz (by simp), fun r hr => q r _ (k4.trans (Kp.new hr)) ?_⟩⟩
        rw [upd_same]
        unfold expV
        rw [nb, hd, dup_step hza hzb, if_pos e]
      · have e : za ≠ zb := by simpa using c
        exact nextK ⟨⟨_, rfl⟩, rfl, by rw [hd, dup_step hza hzb, if_neg e]⟩
    rintro σ H5 ⟨⟨v8, rfl⟩, rfl, hd⟩
    have nd : dupL (srtL (sh ++ hi)) = none := by
      rw [hd]; exact dup_end (by omega)
    walk_at "st"
    refine ⟨sz (by simp), fun r hr => q r _ (k4.trans (Kp.new hr)) ?_⟩
    rw [upd_same]
    unfold expV
    rw [nb, nd]
def sp__law_raised (K : PySem.W.Frag) : Sp := fun vs H Q _ => ∃ (n : Str) (sa ha : Addr) (sh hi : List Str), vs = [.str n, .ref sa, .ref ha] ∧ Sh H sa (sh.map V.str) ∧ Sh H ha (hi.map V.str) ∧ sh.length + hi.length < 50 ∧ n.length ≤ 1000 ∧ (∀ t ∈ sh ++ hi, t.length ≤ 1000) ∧
  ∀ r H', Kp [] H H' → H' r = some (.tup (expV n sh hi)) → Q (.ref r) H'
theorem ok__law_raised (T : Txt K mg A D) : FnOk P w K mg base CX0 5 (A 20) (D 20) ["_law_name", "_law_shown", "_law_hidden"] (sp__law_raised K) := by
  refine T.F__law_raised.ok sc__law_raised (fun vs H Q E h => ?_) (fun cdv A' outer s H vs Q E hr h => ?_)
  · obtain ⟨n, sa, ha, sh, hi, rfl, hsa, hha, hl, hn, hw, q⟩ := h
    rfl
  · obtain ⟨n, sa, ha, sh, hi, rfl, hsa, hha, hl, hn, hw, q⟩ := h
    have hu := hu_of hr
    have G_Part___init__ : FnOk P w K mg base (L2.CX P w) 3 (A 1220) (D 1220) ["self", "word", "name", "shown", "hidden", "constraints"] (sp_Part___init__ K (A 2) (A 3) (A 11)) := ok_Part___init__ T
    refine ⟨_, (pss_cons (ps_try_asM rfl rfl sc__law_raised.nd takes0
        (fun W pn xe tk po => (pss_one (ps_expr (pe_makeO T.mk_Part G_Part___init__ (hr.mono (by decide)) rfl T.g_Part T.b_Part___init__ .nil (fun σ => passAt tk σ) (pa_cons pe_str (pa_cons (pv 0) (pa_cons (pv 1) (pa_cons (pv 2) (pa_cons (pe_lst pa_nil) pa_nil)))))))))
        (.cons (i := 3) rfl rfl ⟨rfl, by decide, .inl T.g_InvalidName⟩ (fun a oe cls d pn hz hf => (pss_cons (ps_if (PW.pt (pw_or (pt_val (pe_callB (id := "isinstance") (call_isF T.E_InvalidName hz hf) (by rfl) T.z_isinstance (by decide +kernel) (pa_cons (pv 3) (pa_cons (pe_glob (v := .ref (A 3)) rfl T.g_InvalidPart rfl) pa_nil)))) (pw_or1 (pt_not (pt_val (pe_callB (id := "isinstance") (call_isF T.E_InvalidName hz hf) (by rfl) T.z_isinstance (by decide +kernel) (pa_cons (pv 3) (pa_cons (pe_glob (v := .ref (A 1)) rfl T.g_ShadowError rfl) pa_nil))))))))
            (pss_one (ps_ret (pe_tup (pa_cons pe_str (pa_cons pe_str pa_nil)))))
            pss_nil)
          (pss_one (ps_ret (pe_tup (pa_cons pe_str (pa_cons (pe_xf T.E_InvalidName.xf T.E_InvalidName.no hz hf (pv 3)) pa_nil))))))) (.cons (i := 3) rfl rfl ⟨rfl, by decide, .inl T.g_InvalidPart⟩ (fun a oe cls d pn hz hf => (pss_cons (ps_if (PW.pt (pw_or (pt_not (pt_val (pe_callB (id := "isinstance") (call_isF T.E_InvalidPart hz hf) (by rfl) T.z_isinstance (by decide +kernel) (pa_cons (pv 3) (pa_cons (pe_bltn (v := .ty "ValueError") (u := .type "ValueError") (by rfl) T.z_ValueError (by decide +kernel) rfl) pa_nil))))) (pw_or1 (pt_not (pt_val (pe_callB (id := "isinstance") (call_isF T.E_InvalidPart hz hf) (by rfl) T.z_isinstance (by decide +kernel) (pa_cons (pv 3) (pa_cons (pe_glob (v := .ref (A 1)) rfl T.g_ShadowError rfl) pa_nil))))))))
            (pss_one (ps_ret (pe_tup (pa_cons pe_str (pa_cons pe_str pa_nil)))))
            pss_nil)
          (pss_one (ps_ret (pe_tup (pa_cons pe_str (pa_cons (pe_xf T.E_InvalidPart.xf T.E_InvalidPart.no hz hf (pv 3)) pa_nil))))))) .nil)))
      (pss_one (ps_ret (pe_tup (pa_cons pe_str (pa_cons pe_str pa_nil)))))), ?_⟩
    refine ⟨_, rfl, _, rfl, _, rfl, sz (by simp), fun l hl' => fun y dy hy hdy ne => ?_⟩
    have kl := Kp.new (A := []) (o := .lst []) hl'
    refine mk_partE (sh := sh) (hi := hi) (cvs := []) hy hdy ne (hsa.kp kl List.not_mem_nil) (hha.kp kl List.not_mem_nil) (.inl upd_same) (by omega) hn hw (by simp) (fun t b d H1 k1 hd => ?_) (fun b t e d H1 k1 hd => ?_) fun b e H' k' _ => ?_
    · refine ⟨true, T.x_InvalidName_InvalidName, fun _ a ha => ?_, fun z => nomatch z⟩
      refine seq_ifK0 ?_
      refine ⟨_, rfl, _, _, false, d, _, rfl, rfl, rfl, upd_same, .own _, T.k_InvalidName_InvalidPart, false, rfl, ?_⟩
      refine iteF ?_
      refine ⟨_, rfl, _, _, true, d, _, rfl, rfl, rfl, upd_same, .own _, T.k_InvalidName_ShadowError, true, rfl, ?_⟩
      refine iteF ?_
      walk_at "st"
      refine ⟨_, rfl, rfl, rfl, d, _, .str t, rfl, upd_same, by simp [List.lookup], sz (by simp), fun r hr => q r _ (((kl.trans k1).trans (Kp.new hd)).trans (Kp.new hr)) ?_⟩
      rw [upd_same]; unfold expV; rw [b]
    · refine ⟨false, T.x_InvalidPart_InvalidName, fun z => (nomatch z), fun _ => ⟨true, T.x_InvalidPart_InvalidPart, fun _ a ha => ?_, fun z => nomatch z⟩⟩
      refine seq_ifK0 ?_
      refine ⟨_, rfl, _, _, true, d, _, rfl, rfl, rfl, upd_same, .ty "ValueError", T.kv_InvalidPart, true, rfl, ?_⟩
      refine iteF ?_
      refine ⟨_, rfl, _, _, true, d, _, rfl, rfl, rfl, upd_same, .own _, T.k_InvalidPart_ShadowError, true, rfl, ?_⟩
      refine iteF ?_
      walk_at "st"
      refine ⟨_, rfl, rfl, rfl, d, _, .str t, rfl, upd_same, by simp [List.lookup], sz (by simp), fun r hr => q r _ (((kl.trans k1).trans (Kp.new hd)).trans (Kp.new hr)) ?_⟩
      rw [upd_same]; unfold expV; rw [b, e]
    · refine ⟨sz (by simp), fun r hr => q r _ ((kl.trans k').trans (Kp.new hr)) ?_⟩
      rw [upd_same]; unfold expV; rw [b, e]
def sp__law_hides (K : PySem.W.Frag) (C : Addr) : Sp := fun vs H Q _ => ∃ (x : Addr) (z wd n : Str) (sh hi : List Str) (cvs : List V), vs = [.ref x, .str z] ∧ PartV C H x wd n sh hi cvs ∧
  (z ∉ sh → ∀ r H', Kp [] H H' → H' r = some (.tup [.str "part", .str z]) → Q (.ref r) H') ∧
  (z ∈ sh → ∀ y H', Kp [] H H' → PartAt C H' y wd n (sh.filter fun t => !decide (t = z)) (hi ++ [z]) cvs → Q (.ref y) H')
theorem ok__law_hides (T : Txt K mg A D) : FnOk P w K mg base CX0 6 (A 22) (D 22) ["_law_part", "_law_name"] (sp__law_hides K (A 11)) := by
  refine T.F__law_hides.ok sc__law_hides (fun vs H Q E h => ?_) (fun cdv A' outer s H vs Q E hr h => ?_)
  · obtain ⟨x, z, wd, n, sh, hi, cvs, rfl, hp, q0, q1⟩ := h
    rfl
  · obtain ⟨x, z, wd, n, sh, hi, cvs, rfl, hp, q0, q1⟩ := h
    have hu := hu_of hr
    have G_Part___sub__ : FnOk P w K mg base (L2.CX P w) 5 (A 1227) (D 1227) ["self", "name"] (sp_Part___sub__ K (A 3) (A 11)) := ok_Part___sub__ T
    refine ⟨_, (pss_one (ps_try_as (i := 2) rfl rfl sc__law_hides.nd rfl rfl ⟨rfl, by decide, .inl T.g_InvalidPart⟩ takes0
        (fun W pn xe tk po => (pss_one (ps_ret (pe_opO T.B_Part_Sub_str T.M_Part___sub__ G_Part___sub__ (hr.mono (by decide)) T.b_Part___sub__ (fun σ => passAt tk σ) (pv 0) (pv 1)))))
        (fun a oe cls d pn hz hf => (pss_one (ps_ret (pe_tup (pa_cons pe_str (pa_cons (pe_xf T.E_InvalidPart.xf T.E_InvalidPart.no hz hf (pv 2)) pa_nil)))))))), ?_⟩
    refine ⟨_, rfl, _, rfl, rfl, x, _, _, rfl, hp.p.ex.choose_spec.choose_spec.choose_spec.choose_spec.1, x, z, wd, n, sh, hi, cvs, rfl, hp, fun h d hd => ⟨true, T.x_InvalidPart_InvalidPart, fun _ a ha => ?_, fun z => nomatch z⟩, fun h y H' k p => q1 h y H' k p⟩
    walk_at "st"
    refine ⟨_, rfl, rfl, rfl, d, _, .str z, rfl, upd_same, by simp [List.lookup], sz (by simp), fun r hr => q0 h r _ ((Kp.new hd).trans (Kp.new hr)) upd_same⟩
def sp__law_reveals (K : PySem.W.Frag) (C : Addr) : Sp := fun vs H Q _ => ∃ (x : Addr) (z wd n : Str) (sh hi : List Str) (cvs : List V), vs = [.ref x, .str z] ∧ PartV C H x wd n sh hi cvs ∧ z.length ≤ 1000 ∧
  (¬ (z ∈ hi ∧ isName z = true) → ∀ r H', Kp [] H H' → H' r = some (.tup [.str "part", .str z]) → Q (.ref r) H') ∧
  (z ∈ hi → isName z = true → ∀ y H', Kp [] H H' → PartAt C H' y wd n (sh ++ [z]) (hi.filter fun t => !decide (t = z)) cvs → Q (.ref y) H')
theorem ok__law_reveals (T : Txt K mg A D) : FnOk P w K mg base CX0 6 (A 23) (D 23) ["_law_part", "_law_name"] (sp__law_reveals K (A 11)) := by
  refine T.F__law_reveals.ok sc__law_reveals (fun vs H Q E h => ?_) (fun cdv A' outer s H vs Q E hr h => ?_)
  · obtain ⟨x, z, wd, n, sh, hi, cvs, rfl, hp, zl, q0, q1⟩ := h
    rfl
  · obtain ⟨x, z, wd, n, sh, hi, cvs, rfl, hp, zl, q0, q1⟩ := h
    have hu := hu_of hr
    have G_Part_reveal : FnOk P w K mg base (L2.CX P w) 5 (A 1228) (D 1228) ["self", "name"] (sp_Part_reveal K (A 3) (A 11)) := ok_Part_reveal T
    refine ⟨_, (pss_one (ps_try_as (i := 2) rfl rfl sc__law_reveals.nd rfl rfl ⟨rfl, by decide, .inl T.g_InvalidPart⟩ takes0
        (fun W pn xe tk po => (pss_one (ps_ret (pe_methO (pv 0) T.cl_Part T.M_Part_reveal G_Part_reveal (hr.mono (by decide)) T.b_Part_reveal .nil (fun σ => passAt tk σ) (pa_cons (pv 1) pa_nil)))))
        (fun a oe cls d pn hz hf => (pss_one (ps_ret (pe_tup (pa_cons pe_str (pa_cons (pe_xf T.E_InvalidPart.xf T.E_InvalidPart.no hz hf (pv 2)) pa_nil)))))))), ?_⟩
    refine ⟨_, rfl, x, _, _, rfl, hp.p.ex.choose_spec.choose_spec.choose_spec.choose_spec.1, rfl, _, rfl, x, z, wd, n, sh, hi, cvs, rfl, hp, zl, fun h d hd => ⟨true, T.x_InvalidPart_InvalidPart, fun _ a ha => ?_, fun z => nomatch z⟩, fun h h2 y H' k p => q1 h h2 y H' k p⟩
    walk_at "st"
    refine ⟨_, rfl, rfl, rfl, d, _, .str z, rfl, upd_same, by simp [List.lookup], sz (by simp), fun r hr => q0 h r _ ((Kp.new hd).trans (Kp.new hr)) upd_same⟩
def sp__law_shows (K : PySem.W.Frag) (C : Addr) : Sp := fun vs H Q _ => ∃ (x sa ha ca : Addr) (wd n : Str) (sh hi : List Str) (cvs cv2 : List V) (cs : List PyData), vs = [.ref x, .ref sa, .ref ha, .ref ca] ∧ PartAt C H x wd n sh hi cvs ∧ (sh ++ hi).Nodup ∧ sh.length + hi.length < 55 ∧
  H sa = some (.lst (sh.map V.str)) ∧ H ha = some (.lst (hi.map V.str)) ∧ H ca = some (.lst cv2) ∧ Cn K H cvs cs ∧ Cn K H cv2 cs ∧ ∀ H', Kp [] H H' → Q (.bl true) H'
theorem ok__law_shows (T : Txt K mg A D) : FnOk P w K mg base CX0 6 (A 21) (D 21) ["_law_part", "_law_shown", "_law_hidden", "_law_constraints"] (sp__law_shows K (A 11)) := by
  refine T.F__law_shows.ok sc__law_shows (fun vs H Q E h => ?_) (fun cdv A' outer s H vs Q E hr h => ?_)
  · obtain ⟨x, sa, ha, ca, wd, n, sh, hi, cvs, cv2, cs, rfl, hp, nd, hl, hsa, hha, hca, hc1, hc2, q⟩ := h
    rfl
  · obtain ⟨x, sa, ha, ca, wd, n, sh, hi, cvs, cv2, cs, rfl, hp, nd, hl, hsa, hha, hca, hc1, hc2, q⟩ := h
    have hu := hu_of hr
    have G_Part___len__ : FnOk P w K mg base CX0 1 (A 1224) (D 1224) ["self"] (sp_Part___len__ K (A 11)) := ok_Part___len__ T
    have G_Part_theory : FnOk P w K mg base CX0 4 (A 1223) (D 1223) ["self"] (sp_Part_theory K (A 11)) := ok_Part_theory T
    have G_Part_names : FnOk P w K mg base CX0 2 (A 1222) (D 1222) ["self"] (sp_Part_names K (A 11)) := ok_Part_names T
    have G_Part___contains__ : FnOk P w K mg base CX0 1 (A 1226) (D 1226) ["self", "name"] (sp_Part___contains__ K (A 11)) := ok_Part___contains__ T
    have G_Part___iter__ : FnSz P w K mg base CX0 1 (A 1225) (D 1225) ["self"] (spIt K (partC (A 11))) := ok_Part___iter__ T
    refine ⟨_, (pss_cons (ps_if (PW.pt (pw_or (pt_not (pt_val (pe_callB (id := "isinstance") (cK_isi (K := K) rfl) (by rfl) T.z_isinstance (by decide +kernel) (pa_cons (pe_fld (pv 0) rfl) (pa_cons (pe_bltn (v := .ty "tuple") (u := .type "tuple") (by rfl) T.z_tuple (by decide +kernel) rfl) pa_nil))))) (pw_or1 (pt_not (pt_val (pe_callB (id := "isinstance") (cK_isi (K := K) rfl) (by rfl) T.z_isinstance (by decide +kernel) (pa_cons (pe_fld (pv 0) rfl) (pa_cons (pe_bltn (v := .ty "tuple") (u := .type "tuple") (by rfl) T.z_tuple (by decide +kernel) rfl) pa_nil))))))))
        (pss_one (ps_ret pe_bl))
        pss_nil)
      (pss_cons (ps_if (PW.pt (pw_or (pt_cmpR (oP_ne (K := K) rfl hr.units) (pe_fld (pv 0) rfl) (pe_callTy (T := "tuple") (cK_tuple (K := K) rfl) (by rfl) T.z_tuple (by decide +kernel) (pa_cons (pe_callB (id := "sorted") (cK_sortedS (K := K) rfl) (by rfl) T.z_sorted (by decide +kernel) (pa_cons (pv 1) pa_nil)) pa_nil)) (nomark _)) (pw_or1 (pt_cmpR (oP_ne (K := K) rfl hr.units) (pe_fld (pv 0) rfl) (pe_callTy (T := "tuple") (cK_tuple (K := K) rfl) (by rfl) T.z_tuple (by decide +kernel) (pa_cons (pe_callB (id := "sorted") (cK_sortedS (K := K) rfl) (by rfl) T.z_sorted (by decide +kernel) (pa_cons (pv 2) pa_nil)) pa_nil)) (nomark _)))))
        (pss_one (ps_ret pe_bl))
        pss_nil)
      (pss_cons (ps_set (i := 4) sc__law_shows.nd rfl (Or.inl rfl) (pe_callTy (T := "tuple") (cK_tuple (K := K) rfl) (by rfl) T.z_tuple (by decide +kernel) (pa_cons (pe_callB (id := "sorted") (cK_sortedS (K := K) rfl) (by rfl) T.z_sorted (by decide +kernel) (pa_cons (pe_op op_cat (pv 1) (pv 2)) pa_nil)) pa_nil)))
      (pss_cons (ps_if (PW.pt (pw_or (pt_cmpR (oP_ne (K := K) rfl hr.units) (pe_prop (pv 0) T.cl_Part T.P_Part_names G_Part_names (hr.mono (by decide)) T.b_Part_names .nil pass0 (by rfl)) (pv 4) (nomark _)) (pw_or (pt_cmpR (oP_ne (K := K) rfl hr.units) (pe_prop (pv 0) T.cl_Part T.P_Part_theory G_Part_theory (hr.mono (by decide)) T.b_Part_theory .nil pass0 (by rfl)) (pe_tup (pa_cons (pv 4) (pa_cons (pe_callTy (T := "tuple") (cK_tuple (K := K) rfl) (by rfl) T.z_tuple (by decide +kernel) (pa_cons (pv 3) pa_nil)) pa_nil))) (nomark _)) (pw_or1 (pt_cmpR op_ne (pe_callB (id := "len") (call_lenO T.M_Part___len__ G_Part___len__ (hr.mono (by decide)) T.b_Part___len__ pass0) (by rfl) T.z_len (by decide +kernel) (pa_cons (pv 0) pa_nil)) (pe_callB (id := "len") (cK_len (K := K) rfl) (by rfl) T.z_len (by decide +kernel) (pa_cons (pv 3) pa_nil)) (nomark _))))))
        (pss_one (ps_ret pe_bl))
        pss_nil)
      (pss_cons (ps_for PassesOwn.never rfl (iK_tup (K := K) rfl (pe_op op_catA (pv 4) (pe_tup (pa_cons pe_str pa_nil)))) (pg_name (i := 5) sc__law_shows.nd rfl (Or.inl rfl))
        (pss_one (ps_if (pt_cmpR op_ne (pe_cmpR (op_inO T.M_Part___contains__ G_Part___contains__ (hr.mono (by decide)) T.b_Part___contains__ pass0) (pv 5) (pv 0) rfl) (pe_cmpR (oK_in (K := K) rfl) (pv 5) (pv 1) rfl) (nomark _))
          (pss_one (ps_ret pe_bl))
          pss_nil)))
      (pss_one (ps_ret (pe_and (pe_cmpR (oP_eq (K := K) rfl hr.units) (pe_lc (own := [("_law_constraint", 6)]) (g := gName 6) (tt := tYes) rfl sc__law_shows.nd (pi_own (K := K) rfl T.M_Part___iter__ G_Part___iter__ (hr.mono (by decide)) T.b_Part___iter__ (pv 0)) (blkOk_by (N := N__law_shows) (sc := defScope (topS 21)) (by decide +kernel)) (fun _ _ _ _ _ => (pg_name (i := 6) sc__law_shows.nd rfl (Or.inl rfl))) (fun _ _ _ _ _ => pts_nil) (fun _ _ _ _ _ => (pv 6))) (pv 3) (nomark _)) (pe_one (pe_cmpR (oP_eq (K := K) rfl hr.units) (pe_fld (pv 0) rfl) (pe_callTy (T := "tuple") (cK_tuple (K := K) rfl) (by rfl) T.z_tuple (by decide +kernel) (pa_cons (pv 3) pa_nil)) (nomark _))))))))))), ?_⟩
    obtain ⟨dx, s1, h1, c1, hx, es, eh, ec⟩ := hp.ex
    refine seq_ifK0 ?_
    refine ⟨_, rfl, x, A 11, dx, _, _, rfl, hx, T.cl_Part, T.n_Part_shown, rfl, _, _, _, _, true, rfl, .ty "tuple", tyx_tup (SqT.of es), kit_ty (by decide +kernel), true, rfl, ?_⟩
    refine iteF ?_
    refine ⟨_, rfl, x, A 11, dx, _, _, rfl, hx, T.cl_Part, T.n_Part_hidden, rfl, _, _, _, _, true, rfl, .ty "tuple", tyx_tup (SqT.of eh), kit_ty (by decide +kernel), true, rfl, ?_⟩
    refine iteF ?_
    refine seq_ifK0 ?_
    refine ⟨_, rfl, x, A 11, dx, _, _, rfl, hx, T.cl_Part, T.n_Part_shown, rfl, _, rfl, sa, sh, rfl, SqL.of hsa, by omega, fun ys1 p1 perm1 srt1 hp1 => ?_⟩
    have e1 := srt_eq perm1 srt1
    subst e1
    refine ⟨p1, _, rfl, .inl ⟨SqL.of upd_same, fun r1 hr1 => ?_⟩⟩
    have k1 : Kp [] H (upd (upd H p1 (.lst ((srtL sh).map V.str))) r1 (.tup ((srtL sh).map V.str))) := (Kp.new hp1).trans (Kp.new hr1)
    refine ⟨_, _, dT (k1.get es (.inr rfl)), dT upd_same, (strs_pln _).1, (strs_pln _).1, _, rfl, ?_⟩
    refine ite2 (fun h => absurd h (by rw [eqS]; simp)) (fun _ => ?_)
    generalize upd (upd H p1 (.lst ((srtL sh).map V.str))) r1 (.tup ((srtL sh).map V.str)) = H1 at k1
    have gx : ∀ {H'}, Kp [] H H' → H' x = some (.ins (A 11) dx (fldsP wd n s1 h1 c1)) := fun k => k.get hx (.inl List.not_mem_nil)
    refine ⟨_, rfl, x, A 11, dx, _, _, rfl, gx k1, T.cl_Part, T.n_Part_hidden, rfl, _, rfl, ha, hi, rfl, SqL.of (k1.get hha (.inl List.not_mem_nil)), by omega, fun ys2 p2 perm2 srt2 hp2 => ?_⟩
    have e2 := srt_eq perm2 srt2
    subst e2
    refine ⟨p2, _, rfl, .inl ⟨SqL.of upd_same, fun r2 hr2 => ?_⟩⟩
    have k2 : Kp [] H (upd (upd H1 p2 (.lst ((srtL hi).map V.str))) r2 (.tup ((srtL hi).map V.str))) := k1.trans ((Kp.new hp2).trans (Kp.new hr2))
    refine ⟨_, _, dT (k2.get eh (.inr rfl)), dT upd_same, (strs_pln _).1, (strs_pln _).1, _, rfl, ?_⟩
    refine ite2 (fun h => absurd h (by rw [eqS]; simp)) (fun _ => ?_)
    generalize upd (upd H1 p2 (.lst ((srtL hi).map V.str))) r2 (.tup ((srtL hi).map V.str)) = H2 at k2
    clear k1
    walk_at "st"
    refine ⟨_, rfl, _, rfl, sa, ha, _, _, rfl, rfl, k2.get hsa (.inl List.not_mem_nil), k2.get hha (.inl List.not_mem_nil), sz (by simp; omega), fun l3 hl3 => ?_⟩
    refine ⟨l3, sh ++ hi, rfl, SqL.of (by rw [upd_same, List.map_append]), by simp; omega, fun ys3 p3 perm3 srt3 hp3 => ?_⟩
    have e3 := srt_eq perm3 srt3
    subst e3
    refine ⟨p3, _, rfl, .inl ⟨SqL.of upd_same, fun r3 hr3 => ?_⟩⟩
    have k3 : Kp [] H (upd (upd (upd H2 l3 (.lst (sh.map V.str ++ hi.map V.str))) p3 (.lst ((srtL (sh ++ hi)).map V.str))) r3 (.tup ((srtL (sh ++ hi)).map V.str))) := k2.trans (((Kp.new hl3).trans (Kp.new hp3)).trans (Kp.new hr3))
    have t3 : (upd (upd (upd H2 l3 (.lst (sh.map V.str ++ hi.map V.str))) p3 (.lst ((srtL (sh ++ hi)).map V.str))) r3 (.tup ((srtL (sh ++ hi)).map V.str))) r3 = some (.tup ((srtL (sh ++ hi)).map V.str)) := upd_same
    generalize upd (upd (upd H2 l3 (.lst (sh.map V.str ++ hi.map V.str))) p3 (.lst ((srtL (sh ++ hi)).map V.str))) r3 (.tup ((srtL (sh ++ hi)).map V.str)) = H3 at k3 t3
    clear k2
    have pk : ∀ {H'}, Kp [] H H' → PartAt (A 11) H' x wd n sh hi cvs := fun k => hp.kp k List.not_mem_nil
    refine seq_ifK0 ?_
    refine ⟨_, rfl, x, dx, _, rfl, gx k3, x, wd, n, sh, hi, cvs, rfl, pk k3, nd, by simp; omega, fun r4 H4 k4 t4 => ?_⟩
    refine ⟨_, rfl, _, _, dT t4, dT (k4.get t3 (.inr rfl)), (strs_pln _).1, (strs_pln _).1, _, rfl, ?_⟩
    refine ite2 (fun h => absurd h (by rw [eqS]; simp)) (fun _ => ?_)
    have k04 := k3.trans k4
    refine ⟨_, rfl, x, dx, _, rfl, gx k04, x, wd, n, sh, hi, cvs, rfl, pk k04, nd, by simp; omega, fun r5 m5 c5 H5 k5 em5 ec5 er5 => ?_⟩
    have k05 := k04.trans k5
    refine ⟨_, rfl, _, rfl, ca, cv2, rfl, .inl ⟨SqL.of (k05.get hca (.inl List.not_mem_nil)), fun t6 ht6 => ⟨sz (by simp), fun r6 hr6 => ?_⟩⟩⟩
    have k6 : Kp [] H5 (upd (upd H5 t6 (.tup cv2)) r6 (.tup [.ref r3, .ref t6])) := (Kp.new ht6).trans (Kp.new hr6)
    have k06 := k05.trans k6
    have e6 : (upd (upd H5 t6 (.tup cv2)) r6 (.tup [.ref r3, .ref t6])) t6 = some (.tup cv2) := (Kp.new (A := []) (o := .tup [.ref r3, .ref t6]) hr6).get upd_same (.inr rfl)
    refine ⟨.tuple [.tuple ((srtL (sh ++ hi)).map .str), .tuple cs], .tuple [.tuple ((srtL (sh ++ hi)).map .str), .tuple cs], .tup (SqT.of (k6.get er5 (.inr rfl))) (.cons (dT (k6.get em5 (.inr rfl))) (.cons (.tup (SqT.of (k6.get ec5 (.inr rfl))) (hc1.kp k06).v.dp) .nil)),
      .tup (SqT.of upd_same) (.cons (dT ((k4.trans (k5.trans k6)).get t3 (.inr rfl))) (.cons (.tup (SqT.of e6) (hc2.kp k06).v.dp) .nil)), two_pln hc1 _, two_pln hc1 _, _, rfl, ?_⟩
    refine ite2 (fun h => absurd h (by rw [SeqAt.eqv_refl_plain _ (two_pln hc1 _).1]; simp)) (fun _ => ?_)
    generalize upd (upd H5 t6 (.tup cv2)) r6 (.tup [.ref r3, .ref t6]) = H6 at k6 k06 e6
    have lc : cvs.length = cv2.length := by rw [hc1.v.length, hc2.v.length]
    have lc1 := hc1.l
    refine ⟨_, rfl, x, dx, _, rfl, gx k06, x, wd, n, sh, hi, cvs, rfl, pk k06, cvs.length, rfl, by omega, _, rfl, _, cv2.length, rfl, .inl ⟨_, SqL.of (k06.get hca (.inl List.not_mem_nil)), rfl⟩, rfl, _, rfl, ?_⟩
    refine ite2 (fun h => absurd h (by rw [lc]; simp)) (fun _ => ?_)
    have t36 := (k4.trans (k5.trans k6)).get t3 (.inr rfl)
    refine seq_forK ?_
    refine ⟨_, rfl, sz (by simp), fun t7 ht7 => catA_of (SqT.of ((Kp.new (A := []) ht7).get t36 (.inr rfl))) (SqT.of upd_same) (sz (by simp [srtL_len]; omega)) fun u8 H8 k8 hu8 => ?_⟩
    have k08 := k06.trans ((Kp.new ht7).trans k8)
    refine ⟨u8, rfl, ⟨_, hu8⟩, for_seq (walk_tup (xs := ((srtL (sh ++ hi)) ++ ([("nowhere" : Str)] : List Str)).map V.str)) (fun i σ H' => (∃ v5 : Option V, σ = [some (.ref x), some (.ref sa), some (.ref ha), some (.ref ca), some (.ref r3), v5, none]) ∧ Kp [] H8 H') ⟨⟨_, rfl⟩, Kp.refl⟩
      (fun i σ H' _ z => z.2.sqT (by rw [List.map_append]; exact hu8)) ?_ ?_⟩
    · rintro i v σ H9 H10 hi' ⟨⟨v5, rfl⟩, k9⟩ ⟨rfl, hv⟩
      rw [List.getElem?_map] at hv
      obtain ⟨z, hz, rfl⟩ := Option.map_eq_some_iff.mp hv
      have k09 := k08.trans k9
      refine gnK ?_
      refine if_anK ?_
      refine ⟨_, rfl, _, rfl, x, dx, _, rfl, gx k09, x, z, wd, n, sh, hi, cvs, rfl, pk k09, _, rfl, _, rfl, _, rfl, sa, _, rfl, .inl (SqL.of (k09.get hsa (.inl List.not_mem_nil))), rfl, flat_strs _, rfl, _, rfl, ?_⟩
      rw [if_neg Bool.false_ne_true, inV_strs]
      refine ite2 (fun h => absurd h (by simp)) (fun _ => ?_)
      exact nextK ⟨⟨_, rfl⟩, k9⟩
    rintro σ H9 ⟨⟨v5, rfl⟩, k9⟩
    have k09 := k08.trans k9
    walk_at "st"
    refine ⟨_, rfl, x, dx, _, c1, cvs, rfl, gx k09, ⟨dx, wd, n, s1, h1, gx k09⟩, SqT.of (k09.get ec (.inr rfl)), fun D hD => lc_it walk_tup (fun i H' => H' D = some (.lst (cvs.take i)) ∧ Kp [] H9 H') ⟨upd_same, Kp.new hD⟩ (fun i H' _ z => z.2.sqT (SqT.of (k09.get ec (.inr rfl)))) ?_ ?_⟩
    · rintro i v H10 H11 hi' ⟨e10, k10⟩ ⟨rfl, hv⟩
      refine gnK ⟨rfl, ?_⟩
      refine yesK ?_
      refine iteT ?_
      refine ⟨_, rfl, _, e10, szl (by rw [List.length_take]; omega), ?_, k10.put hD⟩
      rw [upd_same, List.take_add_one, hv]
      rfl
    rintro H10 ⟨e10, k10⟩
    rw [List.take_length] at e10
    have k010 := k09.trans k10
    refine ⟨_, rfl, .list cs, .list cs, .lst (.inl (.inl e10)) (hc1.kp k010).v.dp, .lst (.inl (.inl (k010.get hca (.inl List.not_mem_nil)))) (hc2.kp k010).v.dp, hc1.pl.1, hc1.pl.1, _, rfl, ?_⟩
    rw [SeqAt.eqv_refl_plain _ hc1.pl.1.1]
    refine iteT ?_
    refine ⟨_, rfl, x, A 11, dx, _, _, rfl, gx k010, T.cl_Part, T.n_Part_constraints, rfl, _, rfl, ca, cv2, rfl, .inl ⟨SqL.of (k010.get hca (.inl List.not_mem_nil)), fun t11 ht11 => ?_⟩⟩
    have k11 := k010.trans (Kp.new (o := .tup cv2) ht11)
    refine ⟨.tuple cs, .tuple cs, .tup (SqT.of (k11.get ec (.inr rfl))) (hc1.kp k11).v.dp, .tup (SqT.of upd_same) (hc2.kp k11).v.dp, hc1.pl.2, hc1.pl.2, ?_⟩
    exact asB (q _ k11) (SeqAt.eqv_refl_plain _ hc1.pl.2.1).symm
theorem filt_step {l : List Str} {i : Nat} {y z : Str} (hy : l[i]? = some y) : (l.take (i + 1)).filter (fun t => !decide (t = z)) = (l.take i).filter (fun t => !decide (t = z)) ++ (if y = z then [] else [y]) := by
  rw [List.take_add_one, hy, Option.toList_some, List.filter_append]
  by_cases e : y = z
  · simp [e]
  · simp [e]
theorem filt_len {l : List Str} {z : Str} {i n : Nat} (h : l.length ≤ n) : (((l.take i).filter fun t => !decide (t = z)).map V.str).length ≤ n := by
  rw [List.length_map]
  refine Nat.le_trans (List.length_filter_le _ _) ?_
  rw [List.length_take]; omega
def sp__law_moves_right (K : PySem.W.Frag) (C : Addr) : Sp := fun vs H Q _ => ∃ (x sa ha ca : Addr) (z wd n : Str) (sh hi : List Str) (cvs cv2 : List V) (cs : List PyData), vs = [.ref x, .str z, .ref sa, .ref ha, .ref ca] ∧ PartV C H x wd n sh hi cvs ∧ z.length ≤ 1000 ∧
  H sa = some (.lst (sh.map V.str)) ∧ H ha = some (.lst (hi.map V.str)) ∧ H ca = some (.lst cv2) ∧ Cn K H cvs cs ∧ Cn K H cv2 cs ∧ ∀ H', Kp [] H H' → Q (.bl true) H'
theorem ok__law_moves_right (T : Txt K mg A D) : FnOk P w K mg base CX0 7 (A 24) (D 24) ["_law_part", "_law_name", "_law_shown", "_law_hidden", "_law_constraints"] (sp__law_moves_right K (A 11)) := by
  refine T.F__law_moves_right.ok sc__law_moves_right (fun vs H Q E h => ?_) (fun cdv A' outer s H vs Q E hr h => ?_)
  · obtain ⟨x, sa, ha, ca, z, wd, n, sh, hi, cvs, cv2, cs, rfl, hp, zl, hsa, hha, hca, hc1, hc2, q⟩ := h
    rfl
  · obtain ⟨x, sa, ha, ca, z, wd, n, sh, hi, cvs, cv2, cs, rfl, hp, zl, hsa, hha, hca, hc1, hc2, q⟩ := h
    have hu := hu_of hr
    have G__law_hides : FnOk P w K mg base CX0 6 (A 22) (D 22) ["_law_part", "_law_name"] (sp__law_hides K (A 11)) := ok__law_hides T
    have G__law_shows : FnOk P w K mg base CX0 6 (A 21) (D 21) ["_law_part", "_law_shown", "_law_hidden", "_law_constraints"] (sp__law_shows K (A 11)) := ok__law_shows T
    have G__law_reveals : FnOk P w K mg base CX0 6 (A 23) (D 23) ["_law_part", "_law_name"] (sp__law_reveals K (A 11)) := ok__law_reveals T
    have G__law_is_name : FnOk P w K mg base CX0 1 (A 17) (D 17) ["_law_text"] (sp__law_is_name K) := ok__law_is_name T
    refine ⟨_, (C8.pss_cut (ps_set (i := 5) sc__law_moves_right.nd rfl (Or.inl rfl) (pe_call G__law_hides (hr.mono (by decide)) rfl T.g__law_hides T.F__law_hides.kp T.b__law_hides .nil pass0 (pa_cons (pv 0) (pa_cons (pv 1) pa_nil))))
      (C8.pss_cut (ps_if (pt_cmpR (oK_nin (K := K) rfl) (pv 1) (pv 2) rfl)
        (pss_one (ps_if (pt_cmpR (oP_ne (K := K) rfl hr.units) (pv 5) (pe_tup (pa_cons pe_str (pa_cons (pv 1) pa_nil))) (nomark _))
          (pss_one (ps_ret pe_bl))
          pss_nil))
        (pss_one (ps_if (pt_not (pt_val (pe_call G__law_shows (hr.mono (by decide)) rfl T.g__law_shows T.F__law_shows.kp T.b__law_shows .nil pass0 (pa_cons (pv 5) (pa_cons (pe_lc (own := [("_law_n", 6)]) (g := gName 6)  rfl sc__law_moves_right.nd (iK_list (K := K) rfl (pv 2)) (blkOk_by (N := N__law_moves_right) (sc := defScope (topS 24)) (by decide +kernel)) (fun _ _ _ _ _ => (pg_name (i := 6) sc__law_moves_right.nd rfl (Or.inl rfl))) (fun _ _ _ _ _ => (pts_one (pt_cmpR op_ne (pv 6) (pv 1) (nomark _)))) (fun _ _ _ _ _ => (pv 6))) (pa_cons (pe_op op_cat (pv 3) (pe_lst (pa_cons (pv 1) pa_nil))) (pa_cons (pv 4) pa_nil)))))))
          (pss_one (ps_ret pe_bl))
          pss_nil)))
      (pss_cons (ps_set (i := 5) sc__law_moves_right.nd rfl (Or.inl rfl) (pe_call G__law_reveals (hr.mono (by decide)) rfl T.g__law_reveals T.F__law_reveals.kp T.b__law_reveals .nil pass0 (pa_cons (pv 0) (pa_cons (pv 1) pa_nil))))
      (pss_cons (ps_if (PW.pt (pw_or (pt_cmpR (oK_nin (K := K) rfl) (pv 1) (pv 3) rfl) (pw_or1 (pt_not (pt_val (pe_call G__law_is_name (hr.mono (by decide)) rfl T.g__law_is_name T.F__law_is_name.kp T.b__law_is_name .nil pass0 (pa_cons (pv 1) pa_nil)))))))
        (pss_one (ps_ret (pe_cmpR (oP_eq (K := K) rfl hr.units) (pv 5) (pe_tup (pa_cons pe_str (pa_cons (pv 1) pa_nil))) (nomark _))))
        pss_nil)
      (pss_one (ps_ret (pe_call G__law_shows (hr.mono (by decide)) rfl T.g__law_shows T.F__law_shows.kp T.b__law_shows .nil pass0 (pa_cons (pv 5) (pa_cons (pe_op op_cat (pv 2) (pe_lst (pa_cons (pv 1) pa_nil))) (pa_cons (pe_lc (own := [("_law_n", 6)]) (g := gName 6)  rfl sc__law_moves_right.nd (iK_list (K := K) rfl (pv 3)) (blkOk_by (N := N__law_moves_right) (sc := defScope (topS 24)) (by decide +kernel)) (fun _ _ _ _ _ => (pg_name (i := 6) sc__law_moves_right.nd rfl (Or.inl rfl))) (fun _ _ _ _ _ => (pts_one (pt_cmpR op_ne (pv 6) (pv 1) (nomark _)))) (fun _ _ _ _ _ => (pv 6))) (pa_cons (pv 4) pa_nil))))))))))), ?_⟩
    have nd := hp.v.nd
    have lsh : sh.length + hi.length < 50 := hp.l
    have px : ∀ {H'}, Kp [] H H' → PartV (A 11) H' x wd n sh hi cvs := fun k => hp.kp k List.not_mem_nil
    refine cutK (fun σ H' => ∃ y, σ = [some (.ref x), some (.str z), some (.ref sa), some (.ref ha), some (.ref ca), some (.ref y), none] ∧ Kp [] H H' ∧
      ((z ∉ sh ∧ H' y = some (.tup [.str "part", .str z])) ∨ (z ∈ sh ∧ PartAt (A 11) H' y wd n (sh.filter fun t => !decide (t = z)) (hi ++ [z]) cvs))) ?_ ?_
    · walk_at "st"
      exact ⟨_, rfl, _, rfl, x, z, wd, n, sh, hi, cvs, rfl, hp, fun hz r H1 k1 er => ⟨r, rfl, k1, .inl ⟨hz, er⟩⟩, fun hz y H1 k1 py => ⟨y, rfl, k1, .inr ⟨hz, py⟩⟩⟩
    rintro σ H1 ⟨y, rfl, k1, hy⟩
    refine cutK (fun σ H' => (∃ v6, σ = [some (.ref x), some (.str z), some (.ref sa), some (.ref ha), some (.ref ca), v6, none]) ∧ Kp [] H H') ?_ ?_
    · refine if_anK ?_
      refine ⟨_, rfl, _, rfl, sa, _, rfl, .inl (SqL.of (k1.get hsa (.inl List.not_mem_nil))), rfl, flat_strs _, _, rfl, ?_⟩
      rw [if_pos rfl, inV_strs]
      rcases hy with ⟨hz, er⟩ | ⟨hz, py⟩
      · refine ite2 (fun _ => ?_) (fun c => absurd c (by simp [hz]))
        refine if_anK ?_
        refine ⟨_, rfl, _, rfl, sz (by simp), fun t ht => ⟨_, _, dT (xs := ["part", z]) ((Kp.new (A := []) ht).get er (.inr rfl)), dT (xs := ["part", z]) upd_same, (strs_pln _).1, (strs_pln _).1, _, rfl, ?_⟩⟩
        refine ite2 (fun h => absurd h (by rw [eqS]; simp)) (fun _ => ?_)
        exact ⟨⟨_, rfl⟩, k1.trans (Kp.new ht)⟩
      · refine ite2 (fun c => absurd c (by simp [hz])) (fun _ => ?_)
        refine if_anK ?_
        refine ⟨_, rfl, _, rfl, sa, rfl, ⟨_, SqL.of (k1.get hsa (.inl List.not_mem_nil))⟩, fun p hpn => lc_it walk_list (fun i H' => H' p = some (.lst (((sh.take i).filter fun t => !decide (t = z)).map V.str)) ∧ Kp [] H1 H')
          ⟨upd_same, Kp.new hpn⟩ (fun i H' _ k => SqL.of ((k1.trans k.2).get hsa (.inl List.not_mem_nil))) ?_ ?_⟩
        · rintro i v H2 H3 hi' ⟨e2, k2⟩ ⟨rfl, hv⟩
          rw [List.getElem?_map] at hv
          obtain ⟨u, hu, rfl⟩ := Option.map_eq_some_iff.mp hv
          refine gnK ⟨rfl, ?_⟩
          refine ⟨_, rfl, _, rfl, rfl, _, rfl, ?_⟩
          refine ite2 (fun c => ?_) (fun c => ?_)
          · have e : u ≠ z := by simpa using c
            refine ⟨_, rfl, _, e2, szl (Nat.lt_of_le_of_lt (filt_len (l := sh) (n := 60) (by omega)) (by decide)), ?_, k2.put hpn⟩
            rw [upd_same, filt_step hu, if_neg e, List.map_append]; rfl
          · have e : u = z := by simpa using c
            exact ⟨by rw [filt_step hu, if_pos e, List.append_nil]; exact e2, k2⟩
        rintro H2 ⟨e2, k2⟩
        rw [List.length_map, List.take_length] at e2
        have k02 := k1.trans k2
        refine ⟨_, rfl, _, rfl, sz (by simp), fun l hl => ?_⟩
        have kl := Kp.new (A := []) (o := .lst [.str z]) hl
        refine ⟨ha, l, _, _, rfl, rfl, (k02.trans kl).get hha (.inl List.not_mem_nil), upd_same, sz (by simp; omega), fun l3 hl3 => ?_⟩
        have k3 := kl.trans (Kp.new (o := .lst (hi.map V.str ++ [.str z])) hl3)
        have k03 := k02.trans k3
        refine ⟨_, rfl, y, p, l3, ca, wd, n, _, hi ++ [z], cvs, cv2, cs, rfl, py.kp (k2.trans k3) List.not_mem_nil, ?_, ?_, k3.get e2 (.inl List.not_mem_nil), by rw [upd_same, List.map_append]; rfl, k03.get hca (.inl List.not_mem_nil), hc1.kp k03, hc2.kp k03, fun H4 k4 => ⟨_, rfl, ?_⟩⟩
        · exact ((((srtL_perm sh).filter _).append ((srtL_perm hi).append (.refl _))).nodup_iff).mp (hp.v.minus hz).nd
        · have := List.length_filter_le (fun t => !decide (t = z)) sh
          rw [List.length_append]; simp; omega
        refine iteF ?_
        exact ⟨⟨_, rfl⟩, k03.trans k4⟩
    rintro σ H2 ⟨⟨v6, rfl⟩, k2⟩
    walk_at "st"
    have fin : ∀ (r t : Addr) (H3 : Hp), H3 t = none → H3 r = some (.tup [.str "part", .str z]) → Kp [] H H3 → (∃ d e, Dp K (upd H3 t (.tup [.str "part", .str z])) (.ref r) d ∧ Dp K (upd H3 t (.tup [.str "part", .str z])) (.ref t) e ∧ pln d ∧ pln e ∧ Q (.bl (PyData.eqv d e)) (upd H3 t (.tup [.str "part", .str z]))) := fun r t H3 ht er k3 =>
      ⟨_, _, dT (xs := ["part", z]) ((Kp.new (A := []) ht).get er (.inr rfl)), dT (xs := ["part", z]) upd_same, (strs_pln _).1, (strs_pln _).1, asB (q _ (k3.trans (Kp.new ht))) (eqS _).symm⟩
    refine ⟨_, rfl, _, rfl, x, z, wd, n, sh, hi, cvs, rfl, px k2, zl, fun hz r H3 k3 er => ?_, fun hz hn y H3 k3 py => ?_⟩
    · have k03 := k2.trans k3
      refine seq_ifK0 ?_
      refine ⟨_, rfl, _, rfl, ha, _, rfl, .inl (SqL.of (k03.get hha (.inl List.not_mem_nil))), rfl, flat_strs _, _, rfl, ?_⟩
      rw [if_pos rfl, inV_strs]
      refine ite2 (fun c => ?_) (fun c => ?_)
      · refine iteT ?_
        walk_at "st"
        exact ⟨_, rfl, _, rfl, sz (by simp), fun t ht => fin r t _ ht er k03⟩
      · have hz' : z ∈ hi := by simpa using c
        refine ⟨_, rfl, z, rfl, Nat.le_trans zl (by decide), _, rfl, ?_⟩
        refine ite2 (fun c2 => ?_) (fun c2 => ?_)
        · walk_at "st"
          exact ⟨_, rfl, _, rfl, sz (by simp), fun t ht => fin r t _ ht er k03⟩
        · exact absurd ⟨hz', by simpa using c2⟩ hz
    · have k03 := k2.trans k3
      refine seq_ifK0 ?_
      refine ⟨_, rfl, _, rfl, ha, _, rfl, .inl (SqL.of (k03.get hha (.inl List.not_mem_nil))), rfl, flat_strs _, _, rfl, ?_⟩
      rw [if_pos rfl, inV_strs]
      refine ite2 (fun c => absurd c (by simp [hz])) (fun _ => ?_)
      refine ⟨_, rfl, z, rfl, Nat.le_trans zl (by decide), _, rfl, ?_⟩
      rw [hn]
      refine iteF ?_
      walk_at "st"
      refine ⟨_, rfl, _, rfl, _, rfl, sz (by simp), fun l hl => ?_⟩
      have kl := Kp.new (A := []) (o := .lst [.str z]) hl
      refine ⟨sa, l, _, _, rfl, rfl, (k03.trans kl).get hsa (.inl List.not_mem_nil), upd_same, sz (by simp; omega), fun l3 hl3 => ?_⟩
      have k4 := kl.trans (Kp.new (o := .lst (sh.map V.str ++ [.str z])) hl3)
      have k04 := k03.trans k4
      have e4 : (upd (upd H3 l (.lst [.str z])) l3 (.lst (sh.map V.str ++ [.str z]))) l3 = some (.lst ((sh ++ [z]).map V.str)) := by rw [upd_same, List.map_append]; rfl
      generalize upd (upd H3 l (.lst [.str z])) l3 (.lst (sh.map V.str ++ [.str z])) = H4 at k4 k04 e4
      refine ⟨_, rfl, ha, rfl, ⟨_, SqL.of (k04.get hha (.inl List.not_mem_nil))⟩, fun p hpn => lc_it walk_list (fun i H' => H' p = some (.lst (((hi.take i).filter fun t => !decide (t = z)).map V.str)) ∧ Kp [] H4 H')
        ⟨upd_same, Kp.new hpn⟩ (fun i H' _ k => SqL.of ((k04.trans k.2).get hha (.inl List.not_mem_nil))) ?_ ?_⟩
      · rintro i v H5 H6 hi' ⟨e5, k5⟩ ⟨rfl, hv⟩
        rw [List.getElem?_map] at hv
        obtain ⟨u, hu, rfl⟩ := Option.map_eq_some_iff.mp hv
        refine gnK ⟨rfl, ?_⟩
        refine ⟨_, rfl, _, rfl, rfl, _, rfl, ?_⟩
        refine ite2 (fun c => ?_) (fun c => ?_)
        · have e : u ≠ z := by simpa using c
          refine ⟨_, rfl, _, e5, szl (Nat.lt_of_le_of_lt (filt_len (l := hi) (n := 60) (by omega)) (by decide)), ?_, k5.put hpn⟩
          rw [upd_same, filt_step hu, if_neg e, List.map_append]; rfl
        · have e : u = z := by simpa using c
          exact ⟨by rw [filt_step hu, if_pos e, List.append_nil]; exact e5, k5⟩
      rintro H5 ⟨e5, k5⟩
      rw [List.length_map, List.take_length] at e5
      have k05 := k04.trans k5
      refine ⟨_, rfl, y, l3, p, ca, wd, n, sh ++ [z], _, cvs, cv2, cs, rfl, py.kp (k4.trans k5) List.not_mem_nil, ?_, ?_, k5.get e4 (.inl List.not_mem_nil), e5, k05.get hca (.inl List.not_mem_nil), hc1.kp k05, hc2.kp k05, fun H6 k6 => q _ (k05.trans k6)⟩
      · exact ((((srtL_perm sh).append (.refl _)).append ((srtL_perm hi).filter _)).nodup_iff).mp (hp.v.back hz hn).nd
      · have := List.length_filter_le (fun t => !decide (t = z)) hi
        rw [List.length_append]; simp; omega
theorem cn_new {K : PySem.W.Frag} {H H' : Hp} {cvs : List V} {cs : List PyData} {t : Addr} (c : Cn K H cvs cs) (k : Kp [] H H') (ht : H' t = some (.tup [.str "new"])) (hl : cvs.length ≤ 50) : Cn K H' (.ref t :: cvs) (.tuple [.str "new"] :: cs) := by
  have c' := c.kp k
  refine ⟨?_, ?_, ?_, ?_, ?_⟩
  · have := c.f
    simp only [flatTs, flatT, this, Bool.and_true, Bool.true_and]
  · have := c.p
    simp only [PyData.plainAll, PyData.plain, this, Bool.and_true, Bool.true_and]
  · have := c.d
    simp only [PyData.depthAll, PyData.depth] at this ⊢
    omega
  · exact .cons (.tup (SqT.of ht) (dv_strs (A := []) ["new"])) c'.v
  · simp; omega
def sp__law_others_right (K : PySem.W.Frag) (C : Addr) : Sp := fun vs H Q _ => ∃ (x sa ha ca : Addr) (wd n : Str) (sh hi : List Str) (cvs cv2 : List V) (cs : List PyData), vs = [.ref x, .ref sa, .ref ha, .ref ca] ∧ PartV C H x wd n sh hi cvs ∧
  H sa = some (.lst (sh.map V.str)) ∧ H ha = some (.lst (hi.map V.str)) ∧ H ca = some (.lst cv2) ∧ Cn K H cvs cs ∧ Cn K H cv2 cs ∧ cv2.length ≤ 50 ∧ ∀ H', Kp [] H H' → Q (.bl true) H'
theorem ok__law_others_right (T : Txt K mg A D) : FnOk P w K mg base CX0 7 (A 25) (D 25) ["_law_part", "_law_shown", "_law_hidden", "_law_constraints"] (sp__law_others_right K (A 11)) := by
  refine T.F__law_others_right.ok sc__law_others_right (fun vs H Q E h => ?_) (fun cdv A' outer s H vs Q E hr h => ?_)
  · obtain ⟨x, sa, ha, ca, wd, n, sh, hi, cvs, cv2, cs, rfl, hp, hsa, hha, hca, hc1, hc2, hl2, q⟩ := h
    rfl
  · obtain ⟨x, sa, ha, ca, wd, n, sh, hi, cvs, cv2, cs, rfl, hp, hsa, hha, hca, hc1, hc2, hl2, q⟩ := h
    have hu := hu_of hr
    have G_Part_with_constraints : FnOk P w K mg base (L2.CX P w) 5 (A 1229) (D 1229) ["self", "constraints"] (sp_Part_with_constraints K (A 11)) := ok_Part_with_constraints T
    have G__law_shows : FnOk P w K mg base CX0 6 (A 21) (D 21) ["_law_part", "_law_shown", "_law_hidden", "_law_constraints"] (sp__law_shows K (A 11)) := ok__law_shows T
    have G_Part_called : FnOk P w K mg base (L2.CX P w) 5 (A 1230) (D 1230) ["self", "name"] (sp_Part_called K (A 2) (A 11)) := ok_Part_called T
    have G_Part___iter__ : FnSz P w K mg base CX0 1 (A 1225) (D 1225) ["self"] (spIt K (partC (A 11))) := ok_Part___iter__ T
    have G_Part___len__ : FnOk P w K mg base CX0 1 (A 1224) (D 1224) ["self"] (sp_Part___len__ K (A 11)) := ok_Part___len__ T
    have G_Part_bare : FnOk P w K mg base (L2.CX P w) 5 (A 1221) (D 1221) ["cls", "word", "name"] (sp_Part_bare K (A 11)) := ok_Part_bare T
    refine ⟨_, (C8.pss_cut (ps_set (i := 4) sc__law_others_right.nd rfl (Or.inl rfl) (pe_methO (pv 0) T.cl_Part T.M_Part_with_constraints G_Part_with_constraints (hr.mono (by decide)) T.b_Part_with_constraints .nil (fun σ => passAt takes0 σ) (pa_cons (pe_op op_cat (pe_lst (pa_cons (pe_tup (pa_cons pe_str pa_nil)) pa_nil)) (pv 3)) pa_nil)))
      (C8.pss_cut (ps_if (PW.pt (pw_or (pt_not (pt_val (pe_call G__law_shows (hr.mono (by decide)) rfl T.g__law_shows T.F__law_shows.kp T.b__law_shows .nil pass0 (pa_cons (pv 4) (pa_cons (pv 1) (pa_cons (pv 2) (pa_cons (pe_op op_cat (pe_lst (pa_cons (pe_tup (pa_cons pe_str pa_nil)) pa_nil)) (pv 3)) pa_nil))))))) (pw_or1 (pt_cmpR op_ne (pe_fld (pv 4) rfl) (pe_fld (pv 0) rfl) (nomark _)))))
        (pss_one (ps_ret pe_bl))
        pss_nil)
      (C8.pss_cut (ps_set (i := 5) sc__law_others_right.nd rfl (Or.inl rfl) (pe_methO (pv 4) T.cl_Part T.M_Part_called G_Part_called (hr.mono (by decide)) T.b_Part_called .nil (fun σ => passAt takes0 σ) (pa_cons pe_str pa_nil)))
      (C8.pss_cut (ps_if (PW.pt (pw_or (pt_cmpR op_ne (pe_fld (pv 5) rfl) pe_str (nomark _)) (pw_or (pt_cmpR op_ne (pe_fld (pv 5) rfl) (pe_fld (pv 0) rfl) (nomark _)) (pw_or1 (pt_not (pt_val (pe_call G__law_shows (hr.mono (by decide)) rfl T.g__law_shows T.F__law_shows.kp T.b__law_shows .nil pass0 (pa_cons (pv 5) (pa_cons (pv 1) (pa_cons (pv 2) (pa_cons (pe_callTy (T := "list") (call_listO (tp := (partC (A 11))) T.M_Part___iter__ G_Part___iter__ T.b_Part___iter__ T.M_Part___len__ G_Part___len__ T.b_Part___len__ (hr.mono (by decide)) (hr.mono (by decide)) rfl) (by rfl) T.z_list (by decide +kernel) (pa_cons (pv 4) pa_nil)) pa_nil)))))))))))
        (pss_one (ps_ret pe_bl))
        pss_nil)
      (pss_cons (ps_set (i := 6) sc__law_others_right.nd rfl (Or.inl rfl) (ClX.pe_cmeth (pe_glob (v := .ref (A 11)) rfl T.g_Part rfl) T.cr_Part T.C_Part_bare (fnR_ok G_Part_bare T.b_Part_bare) (hr.mono (by decide)) passN (pa_cons pe_str (pa_cons pe_str pa_nil))))
      (C8.pss_cut (ps_if (PW.pt (pw_or (pt_cmpR op_ne (pe_fld (pv 6) rfl) pe_str (nomark _)) (pw_or (pt_cmpR op_ne (pe_fld (pv 6) rfl) pe_str (nomark _)) (pw_or1 (pt_not (pt_val (pe_call G__law_shows (hr.mono (by decide)) rfl T.g__law_shows T.F__law_shows.kp T.b__law_shows .nil pass0 (pa_cons (pv 6) (pa_cons (pe_lst pa_nil) (pa_cons (pe_lst pa_nil) (pa_cons (pe_lst pa_nil) pa_nil)))))))))))
        (pss_one (ps_ret pe_bl))
        pss_nil)
      (pss_cons (ps_try_as (i := 7) rfl rfl sc__law_others_right.nd rfl rfl ⟨rfl, by decide, .inl T.g_InvalidName⟩ takes0
        (fun W pn xe tk po => (pss_one (ps_expr (pe_methO (pv 0) T.cl_Part T.M_Part_called G_Part_called (hr.mono (by decide)) T.b_Part_called .nil (fun σ => passAt tk σ) (pa_cons pe_str pa_nil)))))
        (fun a oe cls d pn hz hf => (pss_one (ps_ret (pe_cmpR op_eq (pe_xf T.E_InvalidName.xf T.E_InvalidName.no hz hf (pv 7)) pe_str (nomark _))))))
      (pss_one (ps_ret pe_bl))))))))), ?_⟩
    have nd := hp.v.nd
    have lsh : sh.length + hi.length < 50 := hp.l
    have px : ∀ {H'}, Kp [] H H' → PartV (A 11) H' x wd n sh hi cvs := fun k => hp.kp k List.not_mem_nil
    obtain ⟨dx, s1, h1, c1, hx, es, eh, ec⟩ := hp.p.ex
    have gx : ∀ {H'}, Kp [] H H' → H' x = some (.ins (A 11) dx (fldsP wd n s1 h1 c1)) := fun k => k.get hx (.inl List.not_mem_nil)
    have arg : ∀ {H1 : Hp} {t l r : Addr}, Kp [] H H1 → H1 t = none → upd H1 t (.tup [.str "new"]) l = none → upd (upd H1 t (.tup [.str "new"])) l (.lst [.ref t]) r = none →
        Kp [] H1 (upd (upd (upd H1 t (.tup [.str "new"])) l (.lst [.ref t])) r (.lst ([.ref t] ++ cv2))) ∧ Cn K (upd (upd (upd H1 t (.tup [.str "new"])) l (.lst [.ref t])) r (.lst ([.ref t] ++ cv2))) (.ref t :: cv2) (.tuple [.str "new"] :: cs) := fun {H1 t l r} k ht hl hr => by
      have k3 := ((Kp.new (A := []) (o := .tup [.str "new"]) ht).trans (Kp.new (o := .lst [.ref t]) hl)).trans (Kp.new (o := .lst ([.ref t] ++ cv2)) hr)
      exact ⟨k3, cn_new hc2 (k.trans k3) (((Kp.new (A := []) (o := .lst [.ref t]) hl).trans (Kp.new (o := .lst ([.ref t] ++ cv2)) hr)).get upd_same (.inr rfl)) hl2⟩
    -- revised
    refine cutK (fun σ H' => ∃ y cvn, σ = [some (.ref x), some (.ref sa), some (.ref ha), some (.ref ca), some (.ref y), none, none, none] ∧ Kp [] H H' ∧ PartAt (A 11) H' y wd n sh hi cvn ∧ Cn K H' cvn (.tuple [.str "new"] :: cs)) ?_ ?_
    · walk_at "st"
      refine ⟨_, rfl, x, _, _, rfl, hx, rfl, sz (by simp), fun t ht => ⟨sz (by simp), fun l hl => ⟨_, rfl, ?_⟩⟩⟩
      have kl := (Kp.new (A := []) (o := .tup [.str "new"]) ht).trans (Kp.new (o := .lst [.ref t]) hl)
      refine ⟨l, ca, _, _, rfl, rfl, upd_same, kl.get hca (.inl List.not_mem_nil), sz (by simp; omega), fun r hr => ?_⟩
      obtain ⟨k3, cn⟩ := arg Kp.refl ht hl hr
      exact ⟨x, r, wd, n, sh, hi, cvs, _, rfl, px k3, .inl upd_same, by simp; omega, fun y H' k p => ⟨y, _, rfl, k3.trans k, p, cn.kp k⟩⟩
    rintro σ H1 ⟨y, cvn, rfl, k1, py, cn⟩
    have lcn : cvn.length ≤ 60 := cn.l
    refine cutK (fun σ H' => σ = [some (.ref x), some (.ref sa), some (.ref ha), some (.ref ca), some (.ref y), none, none, none] ∧ Kp [] H1 H') ?_ ?_
    · refine if_anK ?_
      refine ⟨_, rfl, _, rfl, _, rfl, sz (by simp), fun t ht => ⟨sz (by simp), fun l hl => ⟨_, rfl, ?_⟩⟩⟩
      have kl := (Kp.new (A := []) (o := .tup [.str "new"]) ht).trans (Kp.new (o := .lst [.ref t]) hl)
      refine ⟨l, ca, _, _, rfl, rfl, upd_same, (k1.trans kl).get hca (.inl List.not_mem_nil), sz (by simp; omega), fun r hr => ?_⟩
      obtain ⟨k3, cn2⟩ := arg k1 ht hl hr
      refine ⟨y, sa, ha, r, wd, n, sh, hi, cvn, _, _, rfl, py.kp k3 List.not_mem_nil, nd, by omega, (k1.trans k3).get hsa (.inl List.not_mem_nil), (k1.trans k3).get hha (.inl List.not_mem_nil), upd_same, cn.kp k3, cn2, fun H2 k2 => ⟨_, rfl, ?_⟩⟩
      refine iteF ?_
      obtain ⟨dy, s2, h2, c2, hy, _⟩ := (py.kp (k3.trans k2) List.not_mem_nil).ex
      refine ⟨_, rfl, y, A 11, dy, _, _, rfl, hy, T.cl_Part, T.n_Part_name, rfl, _, rfl, x, A 11, dx, _, _, rfl, gx (k1.trans (k3.trans k2)), T.cl_Part, T.n_Part_name, rfl, rfl, _, rfl, ?_⟩
      refine ite2 (fun h => absurd h (by simp)) (fun _ => ?_)
      exact ⟨rfl, k3.trans k2⟩
    rintro σ H2 ⟨rfl, k2⟩
    have k02 := k1.trans k2
    have py2 := py.kp k2 List.not_mem_nil
    have cn2 := cn.kp k2
    clear k1 k2 py cn
    -- again
    refine cutK (fun σ H' => ∃ u, σ = [some (.ref x), some (.ref sa), some (.ref ha), some (.ref ca), some (.ref y), some (.ref u), none, none] ∧ Kp [] H2 H' ∧ PartAt (A 11) H' u wd "z0" sh hi cvn) ?_ ?_
    · walk_at "st"
      obtain ⟨dy, s2, h2, c2, hy, _⟩ := py2.ex
      exact ⟨_, rfl, y, _, _, rfl, hy, rfl, y, "z0", wd, n, sh, hi, cvn, rfl, ⟨py2, hp.v, hp.l, hp.t, by omega⟩, by decide +kernel, fun h => absurd h (by decide +kernel), fun _ u H' k p => ⟨u, rfl, k, p⟩⟩
    rintro σ H3 ⟨u, rfl, k3, pu⟩
    have k03 := k02.trans k3
    have py3 := py2.kp k3 List.not_mem_nil
    have cn3 := cn2.kp k3
    clear k02 k3 py2 cn2
    refine cutK (fun σ H' => σ = [some (.ref x), some (.ref sa), some (.ref ha), some (.ref ca), some (.ref y), some (.ref u), none, none] ∧ Kp [] H H') ?_ ?_
    · refine if_anK ?_
      obtain ⟨du, s3, h3, c3, hu3, _⟩ := pu.ex
      obtain ⟨dy, s2, h2, c2, hy, _, _, ec2⟩ := py3.ex
      refine ⟨_, rfl, u, A 11, du, _, _, rfl, hu3, T.cl_Part, T.n_Part_name, rfl, rfl, _, rfl, ?_⟩
      refine ite2 (fun h => absurd h (by simp)) (fun _ => ?_)
      refine ⟨_, rfl, u, A 11, du, _, _, rfl, hu3, T.cl_Part, T.n_Part_word, rfl, _, rfl, x, A 11, dx, _, _, rfl, gx k03, T.cl_Part, T.n_Part_word, rfl, rfl, _, rfl, ?_⟩
      refine ite2 (fun h => absurd h (by simp)) (fun _ => ?_)
      refine ⟨_, rfl, _, rfl, _, rfl, _, rfl, y, dy, _, c2, cvn, rfl, hy, by omega, fun q1 hq1 => ?_⟩
      have kq := fun o => Kp.new (A := []) (o := o) hq1
      refine ⟨⟨dy, wd, n, s2, h2, (kq _).get hy (.inl List.not_mem_nil)⟩, SqT.of ((kq _).get ec2 (.inr rfl)), fun it H' e hit => ?_, ?_⟩
      · subst e
        exact ⟨y, wd, n, sh, hi, cvn, rfl, py3.kp ((kq _).trans (Kp.new hit)) List.not_mem_nil, ⟨cvn.length, rfl, by omega⟩, rfl⟩
      have k4 := k03.trans (kq (.lst cvn))
      refine ⟨u, sa, ha, q1, wd, "z0", sh, hi, cvn, cvn, _, rfl, pu.kp (kq _) List.not_mem_nil, nd, by omega, k4.get hsa (.inl List.not_mem_nil), k4.get hha (.inl List.not_mem_nil), upd_same, cn3.kp (kq _), cn3.kp (kq _), fun H4 k5 => ⟨_, rfl, ?_⟩⟩
      refine iteF ?_
      exact ⟨rfl, k4.trans k5⟩
    rintro σ H4 ⟨rfl, k04⟩
    clear k03 py3 cn3 pu
    walk_at "st"
    refine ⟨rfl, "steps", "b7", rfl, by decide +kernel, fun b H5 k5 pb => ?_⟩
    refine cutK (fun σ H' => σ = [some (.ref x), some (.ref sa), some (.ref ha), some (.ref ca), some (.ref y), some (.ref u), some (.ref b), none] ∧ Kp [] H H') ?_ ?_
    · refine if_anK ?_
      obtain ⟨db, s3, h3, c3, hb, _⟩ := pb.ex
      refine ⟨_, rfl, b, A 11, db, _, _, rfl, hb, T.cl_Part, T.n_Part_word, rfl, rfl, _, rfl, ?_⟩
      refine ite2 (fun h => absurd h (by simp)) (fun _ => ?_)
      refine ⟨_, rfl, b, A 11, db, _, _, rfl, hb, T.cl_Part, T.n_Part_name, rfl, rfl, _, rfl, ?_⟩
      refine ite2 (fun h => absurd h (by simp)) (fun _ => ?_)
      refine ⟨_, rfl, sz (by simp), fun l1 h1 => ⟨sz (by simp), fun l2 h2 => ⟨sz (by simp), fun l3 h3 => ?_⟩⟩⟩
      have k3 := Kp.new (A := []) (o := .lst []) h3
      have k23 := (Kp.new (A := []) (o := .lst []) h2).trans k3
      have k13 := (Kp.new (A := []) (o := .lst []) h1).trans k23
      have c0 : ∀ H', Cn K H' [] [] := fun _ => ⟨rfl, rfl, by decide, .nil, by simp⟩
      refine ⟨b, l1, l2, l3, "steps", "b7", [], [], [], [], [], rfl, pb.kp k13 List.not_mem_nil, by simp, by simp, k23.get upd_same (.inl List.not_mem_nil), k3.get upd_same (.inl List.not_mem_nil), upd_same, c0 _, c0 _, fun H6 k6 => ⟨_, rfl, ?_⟩⟩
      refine iteF ?_
      exact ⟨rfl, k04.trans (k5.trans (k13.trans k6))⟩
    rintro σ H6 ⟨rfl, k06⟩
    clear k04 k5 pb
    refine ⟨_, rfl, x, _, _, rfl, gx k06, rfl, x, "no name", wd, n, sh, hi, cvs, rfl, px k06, by decide +kernel, fun _ d H7 k7 hd => ⟨true, T.x_InvalidName_InvalidName, fun _ a ha => ?_, fun z => nomatch z⟩, fun h => absurd h (by decide +kernel)⟩
    walk_at "st"
    refine ⟨_, rfl, rfl, rfl, d, _, .str "no name", rfl, upd_same, by simp [List.lookup], rfl, ?_⟩
    exact asB (q _ (k06.trans (k7.trans (Kp.new hd)))) (by simp)
def emT (k : Nat) : PyData := .tuple (List.replicate k (.tuple []))
def cnD (k : Nat) : PyData := .tuple [.tuple [], emT k]
def cnDs (n : Nat) : List PyData := (List.range n).map cnD
theorem dv_rep {A : List Addr} {K : PySem.W.Frag} {H : Hp} {v : V} {d : PyData} (h : Dv A K H v d) : ∀ k, DvAll A K H (List.replicate k v) (List.replicate k d)
  | 0 => .nil
  | k + 1 => .cons h (dv_rep h k)
theorem flat_emT : ∀ k, flatTs (List.replicate k (PyData.tuple [])) = true
  | 0 => rfl
  | k + 1 => by rw [List.replicate_succ, flatTs, flat_emT k]; rfl
theorem flat_cnD (k : Nat) : flatT (cnD k) = true := by
  simp only [cnD, emT, flatT, flatTs, flat_emT k, Bool.and_true, Bool.true_and]
theorem cnDs_succ (n : Nat) : cnDs (n + 1) = cnDs n ++ [cnD n] := by
  unfold cnDs
  rw [List.range_succ, List.map_append]; rfl
theorem flat_cnDs (n : Nat) : flatTs (cnDs n) = true := flatTs_map flat_cnD _
theorem cn_of {K : PySem.W.Frag} {H : Hp} {ws : List V} {n : Nat} (h : DvAll [] K H ws (cnDs n)) (hn : n ≤ 3) : Cn K H ws (cnDs n) := by
  have hl := h.length
  have : n = 0 ∨ n = 1 ∨ n = 2 ∨ n = 3 := by omega
  refine ⟨flat_cnDs n, ?_, ?_, h, ?_⟩
  · rcases this with rfl | rfl | rfl | rfl <;> decide +kernel
  · rcases this with rfl | rfl | rfl | rfl <;> decide +kernel
  · rw [hl]; unfold cnDs; simp; omega
theorem expV_cases (n : Str) (sh hi : List Str) : ∃ xs : List Str, expV n sh hi = xs.map V.str ∧ ((∃ c t : Str, c ≠ "none" ∧ xs = [c, t]) ∨ (badNm n sh hi = none ∧ dupL (srtL (sh ++ hi)) = none ∧ xs = (["none", ""] : List Str))) := by
  unfold expV
  cases badNm n sh hi with
  | some t => exact ⟨([("name" : Str), t] : List Str), rfl, .inl ⟨"name", t, by decide, rfl⟩⟩
  | none =>
    cases dupL (srtL (sh ++ hi)) with
    | some t => exact ⟨([("part" : Str), t] : List Str), rfl, .inl ⟨"part", t, by decide, rfl⟩⟩
    | none => exact ⟨([("none" : Str), ""] : List Str), rfl, .inr ⟨rfl, rfl, rfl⟩⟩
def sp_law (K : PySem.W.Frag) : Sp := fun vs H Q _ => ∃ (a : Addr) (ns : List Int), vs = [.ref a] ∧ SqL K H a (ns.map V.int) ∧ ns.length ≤ 63 ∧ ∀ H', Q (.bl true) H'
theorem ok_law (T : Txt K mg A D) : FnOk P w K mg base CX0 8 (A 26) (D 26) ["_law_script"] (sp_law K) := by
  refine T.F_law.ok sc_law (fun vs H Q E h => ?_) (fun cdv A' outer s H vs Q E hr h => ?_)
  · obtain ⟨a, ns, rfl, hS, hl, q⟩ := h
    rfl
  · obtain ⟨a, ns, rfl, hS, hl, q⟩ := h
    have hu := hu_of hr
    have G__law_source : FnOk P w K mg base CX0 1 (A 13) (D 13) ["_law_script", "_law_k"] (sp__law_source K) := ok__law_source T
    have G__law_plain : FnOk P w K mg base CX0 2 (A 15) (D 15) ["_law_source_here"] (sp__law_plain K) := ok__law_plain T
    have G__law_draw : FnOk P w K mg base CX0 1 (A 14) (D 14) ["_law_source_here", "_law_limit"] (sp__law_draw K) := ok__law_draw T
    have G__law_names : FnOk P w K mg base CX0 3 (A 16) (D 16) ["_law_source_here", "_law_dotted"] (sp__law_names K) := ok__law_names T
    have G__law_expected_error : FnOk P w K mg base CX0 3 (A 19) (D 19) ["_law_name", "_law_shown", "_law_hidden"] (sp__law_expected_error K) := ok__law_expected_error T
    have G__law_raised : FnOk P w K mg base CX0 5 (A 20) (D 20) ["_law_name", "_law_shown", "_law_hidden"] (sp__law_raised K) := ok__law_raised T
    have G_Part___init__ : FnOk P w K mg base (L2.CX P w) 3 (A 1220) (D 1220) ["self", "word", "name", "shown", "hidden", "constraints"] (sp_Part___init__ K (A 2) (A 3) (A 11)) := ok_Part___init__ T
    have G__law_shows : FnOk P w K mg base CX0 6 (A 21) (D 21) ["_law_part", "_law_shown", "_law_hidden", "_law_constraints"] (sp__law_shows K (A 11)) := ok__law_shows T
    have G__law_moves_right : FnOk P w K mg base CX0 7 (A 24) (D 24) ["_law_part", "_law_name", "_law_shown", "_law_hidden", "_law_constraints"] (sp__law_moves_right K (A 11)) := ok__law_moves_right T
    have G__law_others_right : FnOk P w K mg base CX0 7 (A 25) (D 25) ["_law_part", "_law_shown", "_law_hidden", "_law_constraints"] (sp__law_others_right K (A 11)) := ok__law_others_right T
    refine ⟨_, (pss_cons (ps_set (i := 1) sc_law.nd rfl (Or.inl rfl) (pe_call G__law_source (hr.mono (by decide)) rfl T.g__law_source T.F__law_source.kp T.b__law_source .nil pass0 (pa_cons (pv 0) (pa_cons pe_int pa_nil))))
      (pss_cons (ps_set (i := 2) sc_law.nd rfl (Or.inl rfl) (pe_call G__law_plain (hr.mono (by decide)) rfl T.g__law_plain T.F__law_plain.kp T.b__law_plain .nil pass0 (pa_cons (pv 1) pa_nil)))
      (C8.pss_cut (ps_if (pt_cmpR op_eq (pe_call G__law_draw (hr.mono (by decide)) rfl T.g__law_draw T.F__law_draw.kp T.b__law_draw .nil pass0 (pa_cons (pv 1) (pa_cons pe_int pa_nil))) pe_int (nomark _))
        (pss_one (ps_set (i := 2) sc_law.nd rfl (Or.inl rfl) pe_str))
        pss_nil)
      (pss_cons (ps_set (i := 3) sc_law.nd rfl (Or.inl rfl) (pe_call G__law_names (hr.mono (by decide)) rfl T.g__law_names T.F__law_names.kp T.b__law_names .nil pass0 (pa_cons (pe_call G__law_source (hr.mono (by decide)) rfl T.g__law_source T.F__law_source.kp T.b__law_source .nil pass0 (pa_cons (pv 0) (pa_cons pe_int pa_nil))) (pa_cons pe_bl pa_nil))))
      (pss_cons (ps_set (i := 4) sc_law.nd rfl (Or.inl rfl) (pe_call G__law_names (hr.mono (by decide)) rfl T.g__law_names T.F__law_names.kp T.b__law_names .nil pass0 (pa_cons (pe_call G__law_source (hr.mono (by decide)) rfl T.g__law_source T.F__law_source.kp T.b__law_source .nil pass0 (pa_cons (pv 0) (pa_cons pe_int pa_nil))) (pa_cons pe_bl pa_nil))))
      (C8.pss_cut (ps_setLc (i := 6) (own := [("_law_k", 5)]) (g := gName 5) (tt := tYes) rfl sc_law.nd rfl rfl (sw_true rfl rfl rfl (by decide +kernel))  (pi_range1 rfl T.z_range (pa_cons (pe_call G__law_draw (hr.mono (by decide)) rfl T.g__law_draw T.F__law_draw.kp T.b__law_draw .nil pass0 (pa_cons (pv 1) (pa_cons pe_int pa_nil))) pa_nil)) (blkOk_by (N := N_law) (sc := defScope (topS 26)) (by decide +kernel)) (fun _ _ _ _ _ => (pg_name (i := 5) sc_law.nd rfl (Or.inl rfl))) (fun _ _ _ _ _ => pts_nil) (fun _ _ _ _ _ => (pe_tup (pa_cons (pe_tup pa_nil) (pa_cons (pe_op (op_repT2 (K := K) rfl) (pe_tup (pa_cons (pe_tup pa_nil) pa_nil)) (pv 5)) pa_nil)))))
      (pss_cons (ps_set (i := 7) sc_law.nd rfl (Or.inl rfl) (pe_call G__law_expected_error (hr.mono (by decide)) rfl T.g__law_expected_error T.F__law_expected_error.kp T.b__law_expected_error .nil pass0 (pa_cons (pv 2) (pa_cons (pv 3) (pa_cons (pv 4) pa_nil)))))
      (C8.pss_cut (ps_if (pt_cmpR (oP_ne (K := K) rfl hr.units) (pe_call G__law_raised (hr.mono (by decide)) rfl T.g__law_raised T.F__law_raised.kp T.b__law_raised .nil pass0 (pa_cons (pv 2) (pa_cons (pe_callTy (T := "tuple") (cK_tuple (K := K) rfl) (by rfl) T.z_tuple (by decide +kernel) (pa_cons (pv 3) pa_nil)) (pa_cons (pe_callTy (T := "list") (cK_list (K := K) rfl) (by rfl) T.z_list (by decide +kernel) (pa_cons (pv 4) pa_nil)) pa_nil)))) (pv 7) (nomark _))
        (pss_one (ps_ret pe_bl))
        pss_nil)
      (pss_cons (ps_if (pt_cmpR op_ne (pe_ix (xK_tup (K := K) rfl) (pv 7) pe_int (fun _ _ => rfl)) pe_str (nomark _))
        (pss_one (ps_ret pe_bl))
        pss_nil)
      (pss_cons (ps_set (i := 8) sc_law.nd rfl (Or.inl rfl) (pe_lst (pa_cons (pe_callTy (T := "list") (cK_list (K := K) rfl) (by rfl) T.z_list (by decide +kernel) (pa_cons (pv 3) pa_nil)) (pa_cons (pe_callTy (T := "list") (cK_list (K := K) rfl) (by rfl) T.z_list (by decide +kernel) (pa_cons (pv 4) pa_nil)) (pa_cons (pe_callTy (T := "list") (cK_list (K := K) rfl) (by rfl) T.z_list (by decide +kernel) (pa_cons (pv 6) pa_nil)) pa_nil)))))
      (C8.pss_cut (ps_set (i := 9) sc_law.nd rfl (Or.inl rfl) (pe_makeO T.mk_Part G_Part___init__ (hr.mono (by decide)) rfl T.g_Part T.b_Part___init__ .nil (fun σ => passAt takes0 σ) (pa_cons pe_str (pa_cons (pv 2) (pa_cons (pe_ix (xK_list (K := K) rfl) (pv 8) pe_int (fun _ _ => rfl)) (pa_cons (pe_ix (xK_list (K := K) rfl) (pv 8) pe_int (fun _ _ => rfl)) (pa_cons (pe_ix (xK_list (K := K) rfl) (pv 8) pe_int (fun _ _ => rfl)) pa_nil)))))))
      (pss_cons (ps_for PassesOwn.never rfl (pi_range1 rfl T.z_range (pa_cons pe_int pa_nil)) (pg_name (i := 5) sc_law.nd rfl (Or.inl rfl))
        (pss_one (ps_expr (pe_bm PySem.F.plainAttrs_list PySem.F.slot_list_append PySem.F.type_list_append mt_append (pe_ix (xK_list (K := K) rfl) (pv 8) (pv 5) (fun _ _ => rfl)) (pa_cons pe_str pa_nil)))))
      (C8.pss_cut (ps_if (PW.pt (pw_or (pt_cmpR op_ne (pe_fld (pv 9) rfl) pe_str (nomark _)) (pw_or (pt_cmpR op_ne (pe_fld (pv 9) rfl) (pv 2) (nomark _)) (pw_or1 (pt_not (pt_val (pe_call G__law_shows (hr.mono (by decide)) rfl T.g__law_shows T.F__law_shows.kp T.b__law_shows .nil pass0 (pa_cons (pv 9) (pa_cons (pv 3) (pa_cons (pv 4) (pa_cons (pv 6) pa_nil)))))))))))
        (pss_one (ps_ret pe_bl))
        pss_nil)
      (pss_cons (ps_for PassesOwn.never rfl (iK_list (K := K) rfl (pe_op op_cat (pe_op op_cat (pv 3) (pv 4)) (pe_lst (pa_cons pe_str pa_nil)))) (pg_name (i := 10) sc_law.nd rfl (Or.inl rfl))
        (pss_one (ps_if (pt_not (pt_val (pe_call G__law_moves_right (hr.mono (by decide)) rfl T.g__law_moves_right T.F__law_moves_right.kp T.b__law_moves_right .nil pass0 (pa_cons (pv 9) (pa_cons (pv 10) (pa_cons (pv 3) (pa_cons (pv 4) (pa_cons (pv 6) pa_nil))))))))
          (pss_one (ps_ret pe_bl))
          pss_nil)))
      (pss_cons (ps_if (pt_not (pt_val (pe_call G__law_others_right (hr.mono (by decide)) rfl T.g__law_others_right T.F__law_others_right.kp T.b__law_others_right .nil pass0 (pa_cons (pv 9) (pa_cons (pv 3) (pa_cons (pv 4) (pa_cons (pv 6) pa_nil)))))))
        (pss_one (ps_ret pe_bl))
        pss_nil)
      (pss_one (ps_ret (pe_and (pe_cmpR op_eq (pe_fld (pv 9) rfl) (pv 2) (nomark _)) (pe_one (pe_call G__law_shows (hr.mono (by decide)) rfl T.g__law_shows T.F__law_shows.kp T.b__law_shows .nil pass0 (pa_cons (pv 9) (pa_cons (pv 3) (pa_cons (pv 4) (pa_cons (pv 6) pa_nil)))))))))))))))))))))))), ?_⟩
    have src : ∀ {H' : Hp}, Kp [] H H' → SqL K H' a (ns.map V.int) := fun k => k.sqL List.not_mem_nil hS
    walk_at "st"
    refine ⟨_, rfl, a, ns, 0, rfl, hS, hl, fun p H1 hp k1 s1 => ?_⟩
    refine ⟨_, rfl, p, rfl, s1, fun nm H2 hnm k2 s2 => ?_⟩
    refine cutK (fun σ H' => ∃ nm : Str, σ = [some (.ref a), some (.ref p), some (.str nm), none, none, none, none, none, none, none, none] ∧ nm.length ≤ 8 ∧ Kp [p] H1 H' ∧ Src H' p) ?_ ?_
    · refine if_anK ?_
      refine ⟨_, rfl, p, 15, rfl, s2, by decide, by decide, fun r H3 r0 r1 k3 s3 => ?_⟩
      refine ⟨rfl, _, rfl, ?_⟩
      refine ite2 (fun _ => ?_) (fun _ => ?_)
      · walk_at "st"
        exact ⟨_, rfl, by decide +kernel, k2.trans k3, s3⟩
      · exact ⟨nm, rfl, (isName_len hnm).2, k2.trans k3, s3⟩
    clear k2 s2 hnm
    rintro σ H2 ⟨nm, rfl, nl, k2, s2⟩
    have kA : Kp [] H H2 := Kp.back hp (k1.nil.trans k2)
    clear k1 k2 s1
    walk_at "st"
    refine ⟨_, rfl, a, ns, 1, rfl, src kA, hl, fun p1 H3 hp1 k3 s3 => ?_⟩
    refine ⟨p1, false, rfl, s3, fun sh sa H4 l4 t4 hsa k4 s4 e4 => ?_⟩
    have kB : Kp [] H2 H4 := Kp.back hp1 (k3.nil.trans k4)
    have sB : Src H4 p := s2.kp kB List.not_mem_nil
    have psa : sa ≠ p := src_ne (s2.kp k3 List.not_mem_nil) hsa
    refine ⟨_, rfl, a, ns, 2, rfl, src (kA.trans kB), hl, fun p2 H5 hp2 k5 s5 => ?_⟩
    refine ⟨p2, true, rfl, s5, fun hi ha H6 l6 t6 hha k6 s6 e6 => ?_⟩
    have kC : Kp [] H4 H6 := Kp.back hp2 (k5.nil.trans k6)
    have sC : Src H6 p := sB.kp kC List.not_mem_nil
    have pha : ha ≠ p := src_ne (sB.kp k5 List.not_mem_nil) hha
    have e46 := kC.get e4 (.inl List.not_mem_nil)
    have k06 := kA.trans (kB.trans kC)
    clear kA kB kC k3 s3 k4 s4 k5 s5 k6 s6 sB e4 s2
    have hw : ∀ t ∈ sh ++ hi, t.length ≤ 1000 := fun t h => by
      rcases List.mem_append.mp h with h | h
      · have := t4 t h; omega
      · have := t6 t h; omega
    refine cutK (fun σ H' => ∃ D ws cs, σ = [some (.ref a), some (.ref p), some (.str nm), some (.ref sa), some (.ref ha), none, some (.ref D), none, none, none, none] ∧ H' sa = some (.lst (sh.map V.str)) ∧ H' ha = some (.lst (hi.map V.str)) ∧ H' D = some (.lst ws) ∧ Cn K H' ws cs ∧ ws.length ≤ 4) ?_ ?_
    · walk_at "st"
      refine ⟨_, rfl, p, 4, rfl, sC, by decide, by decide, fun r H7 r0 r1 k7 s7 => ⟨r, rfl, by omega, by omega, fun D hD => lc_it walk_range (fun i H' => ∃ ws, H' D = some (.lst ws) ∧ ws.length = i ∧ DvAll [] K H' ws (cnDs i) ∧ Kp [] H7 H')
        ⟨[], upd_same, rfl, .nil, Kp.new hD⟩ (fun _ _ _ _ => trivial) ?_ ?_⟩⟩
      · rintro i v H8 H9 hi' ⟨ws, e8, el, dv, k8⟩ ⟨rfl, rfl⟩
        refine gnK ⟨rfl, ?_⟩
        refine yesK ?_
        refine iteT ?_
        refine ⟨sz (by simp), fun e he => ⟨sz (by simp), fun t0 h0 => ⟨sz (by simp), fun t1 h1 => ?_⟩⟩⟩
        have kt1 := Kp.new (A := []) (o := .tup [.ref t0]) h1
        have kt0 := (Kp.new (A := []) (o := .tup []) h0).trans kt1
        have kt := (Kp.new (A := []) (o := .tup []) he).trans kt0
        have fin : ∀ (m : Addr) (H10 : Hp), Kp [] (upd (upd (upd H9 e (.tup [])) t0 (.tup [])) t1 (.tup [.ref t0])) H10 → H10 m = some (.tup (List.replicate i (.ref t0))) → ∀ r, H10 r = none → upd H10 r (.tup [.ref e, .ref m]) D = some (.lst ws) ∧
            (∃ ws', upd (upd H10 r (.tup [.ref e, .ref m])) D (.lst (ws ++ [.ref r])) D = some (.lst ws') ∧ ws'.length = i + 1 ∧ DvAll [] K (upd (upd H10 r (.tup [.ref e, .ref m])) D (.lst (ws ++ [.ref r]))) ws' (cnDs (i + 1)) ∧ Kp [] H7 (upd (upd H10 r (.tup [.ref e, .ref m])) D (.lst (ws ++ [.ref r])))) := fun m H10 k10 em r hr => by
          have kr := Kp.new (A := []) (o := .tup [.ref e, .ref m]) hr
          have k11 := (kt.trans k10).trans kr
          have eD := k11.get e8 (.inl List.not_mem_nil)
          have kD := Kp.own (A := [D]) (o' := .lst (ws ++ [.ref r])) eD rfl (by simp)
          refine ⟨eD, ws ++ [.ref r], upd_same, by simp [el], ?_, (k8.trans k11).put hD⟩
          rw [cnDs_succ]
          refine DvAll.snoc (DvAll.mv (flat_cnDs i) kD (DvAll.mv (flat_cnDs i) k11 dv)) ?_
          have ee := kD.get ((kt0.trans (k10.trans kr)).get upd_same (.inr rfl)) (.inr rfl)
          have e0 := kD.get ((kt1.trans (k10.trans kr)).get upd_same (.inr rfl)) (.inr rfl)
          exact .tup (SqT.of (kD.get upd_same (.inr rfl))) (.cons (.tup (SqT.of ee) .nil) (.cons (.tup (SqT.of (kD.get (kr.get em (.inr rfl)) (.inr rfl))) (dv_rep (.tup (SqT.of e0) .nil) i)) .nil))
        have lws : ws.length ≤ 100 := by omega
        refine ⟨_, rfl, t1, _, [.ref t0], rfl, rfl, SqT.of upd_same, by simp, by omega, by omega, by simp, fun kk => ?_, fun kk m hm => ?_⟩
        · refine ⟨sz (by simp), fun r hr => ?_⟩
          obtain ⟨q1, q2⟩ := fin t1 _ Kp.refl (by rw [upd_same, show i = 1 by omega]; rfl) r hr
          exact ⟨_, q1, szl (by omega), q2⟩
        · refine ⟨sz (by simp), fun r hr => ?_⟩
          obtain ⟨q1, q2⟩ := fin m _ (Kp.new hm) (by rw [upd_same, show ((0 : Int) + (i : Int)).toNat = i by omega]; simp [List.flatten_replicate_singleton]) r hr
          exact ⟨_, q1, szl (by omega), q2⟩
      rintro H8 ⟨ws, e8, el, dv, k8⟩
      exact ⟨D, ws, cnDs r.toNat, rfl, k8.get (k7.get e46 (.inl (by simpa using psa))) (.inl List.not_mem_nil), k8.get (k7.get e6 (.inl (by simpa using pha))) (.inl List.not_mem_nil), e8, cn_of dv (by omega), by omega⟩
    clear k06 e46 e6 sC
    rintro σ H7 ⟨D, ws, cs, rfl, hsa', hha', hD', hcn, lw⟩
    walk_at "st"
    refine ⟨_, rfl, _, rfl, _, rfl, nm, sa, ha, sh, hi, rfl, hsa', hha', by omega, by omega, hw, fun r1 H8 k8 er1 => ?_⟩
    obtain ⟨xs, ex, hx⟩ := expV_cases nm sh hi
    rw [ex] at er1
    refine cutK (fun σ H' => σ = [some (.ref a), some (.ref p), some (.str nm), some (.ref sa), some (.ref ha), none, some (.ref D), some (.ref r1), none, none, none] ∧ Kp [] H8 H') ?_ ?_
    · refine if_anK ?_
      refine ⟨_, rfl, _, rfl, sa, _, rfl, .inl ⟨SqL.of (k8.get hsa' (.inl List.not_mem_nil)), fun tt htt => ?_⟩⟩
      have kt := Kp.new (A := []) (o := .tup (sh.map V.str)) htt
      refine ⟨_, rfl, ha, _, rfl, .inl (SqL.of ((k8.trans kt).get hha' (.inl List.not_mem_nil))), fun lh hlh => ?_⟩
      have kl := Kp.new (A := []) (o := .lst (hi.map V.str)) hlh
      refine ⟨nm, tt, lh, sh, hi, rfl, .inr (kl.get upd_same (.inr rfl)), .inl upd_same, by omega, by omega, hw, fun r2 H9 k9 er2 => ?_⟩
      rw [ex] at er2
      have k89 := (kt.trans kl).trans k9
      refine ⟨_, rfl, _, _, dT er2, dT (k89.get er1 (.inr rfl)), (strs_pln _).1, (strs_pln _).1, _, rfl, ?_⟩
      refine ite2 (fun h => absurd h (by rw [eqS]; simp)) (fun _ => ?_)
      exact ⟨rfl, k89⟩
    rintro σ H9 ⟨rfl, k9⟩
    have er9 := k9.get er1 (.inr rfl)
    have k79 := k8.trans k9
    have hsa9 := k79.get hsa' (.inl List.not_mem_nil)
    have hha9 := k79.get hha' (.inl List.not_mem_nil)
    have hD9 := k79.get hD' (.inl List.not_mem_nil)
    have hcn9 := hcn.kp k79
    clear k79 k9 k8 hsa' hha' hD' hcn er1
    refine seq_ifK0 ?_
    rcases hx with ⟨c, t, hc, rfl⟩ | ⟨hb, hd, rfl⟩
    · refine ⟨_, rfl, r1, _, _, _, rfl, rfl, SqT.of er9, rfl, rfl, _, rfl, ?_⟩
      refine ite2 (fun _ => ?_) (fun h => absurd h (by simpa using hc))
      exact q _
    refine ⟨_, rfl, r1, _, _, _, rfl, rfl, SqT.of er9, rfl, rfl, _, rfl, ?_⟩
    refine ite2 (fun h => absurd h (by simp)) (fun _ => ?_)
    have v := vd_of hb hd
    walk_at "st"
    refine ⟨_, rfl, sa, _, rfl, .inl (SqL.of hsa9), fun l1 h1 => ?_⟩
    have m1 := Kp.new (A := []) (o := .lst (sh.map V.str)) h1
    refine ⟨_, rfl, ha, _, rfl, .inl (SqL.of (m1.get hha9 (.inl List.not_mem_nil))), fun l2 h2 => ?_⟩
    have m2 := Kp.new (A := []) (o := .lst (hi.map V.str)) h2
    refine ⟨_, rfl, D, _, rfl, .inl (SqL.of ((m1.trans m2).get hD9 (.inl List.not_mem_nil))), fun l3 h3 => ?_⟩
    have m3 := Kp.new (A := []) (o := .lst ws) h3
    refine ⟨sz (by simp), fun pl hpl => ?_⟩
    have m4 := Kp.new (A := []) (o := .lst [.ref l1, .ref l2, .ref l3]) hpl
    have n1 : H9 l1 = none := h1
    have n2 : H9 l2 = none := m1.none List.not_mem_nil h2
    have n3 : H9 l3 = none := (m1.trans m2).none List.not_mem_nil h3
    have f1 := (m2.trans (m3.trans m4)).get upd_same (.inl List.not_mem_nil)
    have f2 := (m3.trans m4).get upd_same (.inl List.not_mem_nil)
    have f3 := m4.get upd_same (.inl List.not_mem_nil)
    have f4 : (upd (upd (upd (upd H9 l1 (.lst (sh.map V.str))) l2 (.lst (hi.map V.str))) l3 (.lst ws)) pl (.lst [.ref l1, .ref l2, .ref l3])) pl = some (.lst [.ref l1, .ref l2, .ref l3]) := upd_same
    have k10 := m1.trans (m2.trans (m3.trans m4))
    have d12 : l1 ≠ l2 := ne_of_none upd_same h2
    have d13 : l1 ≠ l3 := ne_of_none (m2.get upd_same (.inl List.not_mem_nil)) h3
    have d23 : l2 ≠ l3 := ne_of_none upd_same h3
    have dp1 : l1 ≠ pl := ne_of_none ((m2.trans m3).get upd_same (.inl List.not_mem_nil)) hpl
    have dp2 : l2 ≠ pl := ne_of_none (m3.get upd_same (.inl List.not_mem_nil)) hpl
    have dp3 : l3 ≠ pl := ne_of_none upd_same hpl
    generalize upd (upd (upd (upd H9 l1 (.lst (sh.map V.str))) l2 (.lst (hi.map V.str))) l3 (.lst ws)) pl (.lst [.ref l1, .ref l2, .ref l3]) = H10 at f1 f2 f3 f4 k10
    clear m1 m2 m3 m4
    refine cutK (fun σ H' => ∃ y, σ = [some (.ref a), some (.ref p), some (.str nm), some (.ref sa), some (.ref ha), none, some (.ref D), some (.ref r1), some (.ref pl), some (.ref y), none] ∧ Kp [] H10 H' ∧ PartAt (A 11) H' y "rows" nm sh hi ws ∧ H10 y = none) ?_ ?_
    · walk_at "st"
      refine ⟨_, rfl, _, rfl, pl, _, _, _, rfl, rfl, SqL.of f4, rfl, _, rfl, pl, _, _, _, rfl, rfl, SqL.of f4, rfl, _, rfl, pl, _, _, _, rfl, rfl, SqL.of f4, rfl, fun y dy hy hdy ne => ?_⟩
      exact mk_part hy hdy ne (.inl f1) (.inl f2) (.inl f3) (by omega) hw (by omega) v fun H12 k12 py => ⟨y, rfl, k12, py, hy⟩
    rintro σ H12 ⟨y, rfl, k12, py, hy⟩
    have y1 : l1 ≠ y := ne_of_none f1 hy
    have y2 : l2 ≠ y := ne_of_none f2 hy
    have y3 : l3 ≠ y := ne_of_none f3 hy
    refine seq_forK ?_
    refine ⟨_, rfl, by decide, by decide, for_seq walk_range (fun i σ H' => ∃ v5, σ = [some (.ref a), some (.ref p), some (.str nm), some (.ref sa), some (.ref ha), v5, some (.ref D), some (.ref r1), some (.ref pl), some (.ref y), none] ∧ Kp [] H9 H' ∧ Kp [l1, l2, l3] H12 H' ∧
        (∃ a1 a2 a3, H' l1 = some (.lst a1) ∧ H' l2 = some (.lst a2) ∧ H' l3 = some (.lst a3) ∧ a1.length ≤ 10 + i ∧ a2.length ≤ 10 + i ∧ a3.length ≤ 10 + i))
      ⟨_, rfl, k10.trans k12, Kp.refl, _, _, _, k12.get f1 (.inl List.not_mem_nil), k12.get f2 (.inl List.not_mem_nil), k12.get f3 (.inl List.not_mem_nil), by rw [List.length_map]; omega, by rw [List.length_map]; omega, by omega⟩ (fun _ _ _ _ _ => trivial) ?_ ?_⟩
    · rintro i v' σ H13 H14 hi' ⟨v5, rfl, k13, k13', a1, a2, a3, g1, g2, g3, b1, b2, b3⟩ ⟨rfl, rfl⟩
      refine gnK ?_
      have epl := k13'.get (k12.get f4 (.inl List.not_mem_nil)) (.inl (by simp [dp1.symm, dp2.symm, dp3.symm]))
      walk_at "st"
      rcases (by omega : i = 0 ∨ i = 1 ∨ i = 2) with rfl | rfl | rfl
      · refine ⟨_, rfl, _, rfl, pl, _, _, _, rfl, rfl, SqL.of epl, rfl, .inl ⟨rfl, _, SqL.of g1⟩, l1, _, _, rfl, rfl, g1, szl (by omega), ?_⟩
        exact ⟨_, rfl, k13.put n1, k13'.trans (Kp.own g1 rfl (by simp)), _, _, _, upd_same, (upd_ne d12.symm).trans g2, (upd_ne d13.symm).trans g3, by simp; omega, by omega, by omega⟩
      · refine ⟨_, rfl, _, rfl, pl, _, _, _, rfl, rfl, SqL.of epl, rfl, .inl ⟨rfl, _, SqL.of g2⟩, l2, _, _, rfl, rfl, g2, szl (by omega), ?_⟩
        exact ⟨_, rfl, k13.put n2, k13'.trans (Kp.own g2 rfl (by simp)), _, _, _, (upd_ne d12).trans g1, upd_same, (upd_ne d23.symm).trans g3, by omega, by simp; omega, by omega⟩
      · refine ⟨_, rfl, _, rfl, pl, _, _, _, rfl, rfl, SqL.of epl, rfl, .inl ⟨rfl, _, SqL.of g3⟩, l3, _, _, rfl, rfl, g3, szl (by omega), ?_⟩
        exact ⟨_, rfl, k13.put n3, k13'.trans (Kp.own g3 rfl (by simp)), _, _, _, (upd_ne d13).trans g1, (upd_ne d23).trans g2, upd_same, by omega, by omega, by simp; omega⟩
    rintro σ H13 ⟨v5, rfl, k13, k13', _⟩
    have py13 := py.kp k13' (by simp [y1.symm, y2.symm, y3.symm])
    have hsa3 := k13.get hsa9 (.inl List.not_mem_nil)
    have hha3 := k13.get hha9 (.inl List.not_mem_nil)
    have hD3 := k13.get hD9 (.inl List.not_mem_nil)
    have hcn3 := hcn9.kp k13
    clear k13 k13' k12 k10 f1 f2 f3 f4 h1 h2 h3 hpl hsa9 hha9 hD9 hcn9 py er9 hy n1 n2 n3
    have pv : ∀ {H'}, Kp [] H13 H' → PartV (A 11) H' y "rows" nm sh hi ws := fun k => ⟨py13.kp k List.not_mem_nil, v, by omega, hw, by omega⟩
    have nd := v.nd
    refine cutK (fun σ H' => σ = [some (.ref a), some (.ref p), some (.str nm), some (.ref sa), some (.ref ha), v5, some (.ref D), some (.ref r1), some (.ref pl), some (.ref y), none] ∧ Kp [] H13 H') ?_ ?_
    · refine if_anK ?_
      obtain ⟨db, s3, h3, c3, hb, _⟩ := py13.ex
      refine ⟨_, rfl, y, A 11, db, _, _, rfl, hb, T.cl_Part, T.n_Part_word, rfl, rfl, _, rfl, ?_⟩
      refine ite2 (fun h => absurd h (by simp)) (fun _ => ?_)
      refine ⟨_, rfl, y, A 11, db, _, _, rfl, hb, T.cl_Part, T.n_Part_name, rfl, _, rfl, rfl, _, rfl, ?_⟩
      refine ite2 (fun h => absurd h (by simp)) (fun _ => ?_)
      refine ⟨_, rfl, _, rfl, _, rfl, _, rfl, y, sa, ha, D, "rows", nm, sh, hi, ws, ws, cs, rfl, py13, nd, by omega, hsa3, hha3, hD3, hcn3, hcn3, fun H6 k6 => ⟨_, rfl, ?_⟩⟩
      refine iteF ?_
      exact ⟨rfl, k6⟩
    rintro σ H14 ⟨rfl, k14⟩
    refine seq_forK ?_
    refine ⟨_, rfl, _, rfl, sa, ha, _, _, rfl, rfl, k14.get hsa3 (.inl List.not_mem_nil), k14.get hha3 (.inl List.not_mem_nil), sz (by simp; omega), fun m1 hm1 => ⟨sz (by simp), fun m2 hm2 => ?_⟩⟩
    refine ⟨m1, m2, _, _, rfl, rfl, (Kp.new (A := []) hm2).get upd_same (.inl List.not_mem_nil), upd_same, sz (by simp; omega), fun m3 hm3 => ?_⟩
    have km := ((Kp.new (A := []) (o := .lst (sh.map V.str ++ hi.map V.str)) hm1).trans (Kp.new (o := .lst [.str "nowhere"]) hm2)).trans (Kp.new (o := .lst ((sh.map V.str ++ hi.map V.str) ++ [.str "nowhere"])) hm3)
    have em : (upd (upd (upd H14 m1 (.lst (sh.map V.str ++ hi.map V.str))) m2 (.lst [.str "nowhere"])) m3 (.lst ((sh.map V.str ++ hi.map V.str) ++ [.str "nowhere"]))) m3 = some (.lst ((sh ++ hi ++ (["nowhere"] : List Str)).map V.str)) := by rw [upd_same, List.map_append, List.map_append]; rfl
    generalize upd (upd (upd H14 m1 (.lst (sh.map V.str ++ hi.map V.str))) m2 (.lst [.str "nowhere"])) m3 (.lst ((sh.map V.str ++ hi.map V.str) ++ [.str "nowhere"])) = H15 at km em
    have k15 := k14.trans km
    refine ⟨m3, rfl, ⟨_, SqL.of em⟩, for_seq (walk_list (xs := (sh ++ hi ++ (["nowhere"] : List Str)).map V.str)) (fun i σ H' => (∃ v10, σ = [some (.ref a), some (.ref p), some (.str nm), some (.ref sa), some (.ref ha), v5, some (.ref D), some (.ref r1), some (.ref pl), some (.ref y), v10]) ∧ Kp [] H15 H') ⟨⟨_, rfl⟩, Kp.refl⟩
      (fun i σ H' _ z => SqL.of (z.2.get em (.inl List.not_mem_nil))) ?_ ?_⟩
    · rintro i v' σ H16 H17 hi' ⟨⟨v10, rfl⟩, k16⟩ ⟨rfl, hv⟩
      rw [List.getElem?_map] at hv
      obtain ⟨z, hz, rfl⟩ := Option.map_eq_some_iff.mp hv
      have zl : z.length ≤ 1000 := by
        rcases List.mem_append.mp (List.mem_of_getElem? hz) with h | h
        · exact hw z h
        · rw [List.mem_singleton.mp h]; decide +kernel
      have k := k15.trans k16
      refine gnK ?_
      refine if_anK ?_
      refine ⟨_, rfl, _, rfl, _, rfl, _, rfl, _, rfl, y, sa, ha, D, z, "rows", nm, sh, hi, ws, ws, cs, rfl, pv k, zl, k.get hsa3 (.inl List.not_mem_nil), k.get hha3 (.inl List.not_mem_nil), k.get hD3 (.inl List.not_mem_nil), hcn3.kp k, hcn3.kp k, fun H18 k18 => ⟨_, rfl, ?_⟩⟩
      refine iteF ?_
      exact nextK ⟨⟨_, rfl⟩, k16.trans k18⟩
    rintro σ H16 ⟨⟨v10, rfl⟩, k16'⟩
    have k16 := k15.trans k16'
    refine seq_ifK0 ?_
    refine ⟨_, rfl, _, rfl, _, rfl, _, rfl, y, sa, ha, D, "rows", nm, sh, hi, ws, ws, cs, rfl, pv k16, k16.get hsa3 (.inl List.not_mem_nil), k16.get hha3 (.inl List.not_mem_nil), k16.get hD3 (.inl List.not_mem_nil), hcn3.kp k16, hcn3.kp k16, by omega, fun H17 k17 => ⟨_, rfl, ?_⟩⟩
    refine iteF ?_
    have k := k16.trans k17
    walk_at "st"
    obtain ⟨db, s3, h3, c3, hb, _⟩ := (py13.kp k List.not_mem_nil).ex
    refine ⟨_, rfl, y, A 11, db, _, _, rfl, hb, T.cl_Part, T.n_Part_name, rfl, _, rfl, rfl, _, rfl, ?_⟩
    refine ite2 (fun _ => ?_) (fun h => absurd h (by simp))
    exact ⟨_, rfl, _, rfl, _, rfl, _, rfl, y, sa, ha, D, "rows", nm, sh, hi, ws, ws, cs, rfl, py13.kp k List.not_mem_nil, nd, by omega, k.get hsa3 (.inl List.not_mem_nil), k.get hha3 (.inl List.not_mem_nil), k.get hD3 (.inl List.not_mem_nil), hcn3.kp k, hcn3.kp k, fun H18 k18 => q H18⟩
end
theorem all_mk {l : PySem.W.OpenLaw} {w : World} {K : PySem.W.Frag} {h : Heap} {mg : Str → Option Value} {fa : Addr} (X : K.In h) (G : h.Ns mainGlobals mg) (hfa : mg "law" = some (.ref fa))
    {f1 : Addr} (a1 : PySem.W.nsIn K mainGlobals "ShadowError" = some (some (.ref f1)))
    {f2 : Addr} (a2 : PySem.W.nsIn K mainGlobals "InvalidName" = some (some (.ref f2)))
    {f3 : Addr} (a3 : PySem.W.nsIn K mainGlobals "InvalidPart" = some (some (.ref f3)))
    {nm2 qn2 : Str} {N2 : Addr} {bs2 bm2 : List Value} {sn2 : List Str} {sub2 : List Value} {ab2 : Bool} {col2 : Option Bool} {dd2 : Option Addr} {u0_2 u1_2 u2_2 u3_2 u5_2 : Option Value}
    {f1040 : Addr} {oc1040 kV1040 dc1040 pm1040 cd1040 ct1040 : Value} {od1040 an1040 : Option Addr} {sl1040 : Array (Option Value)}
    (xL_2 : K.lookup f2 = some (excClassObj nm2 qn2 f2 N2 bs2 bm2 true sn2 sub2 ab2 col2 dd2 u0_2 u1_2 u2_2 u3_2 u5_2 "ValueError.__new__"))
    (rv_2 : PySem.HandSPX.refsVE bm2 = true)
    (sa_2 : PySem.W.findIn K (.ref f2) "__setattr__" = some (some (.builtin "object.__setattr__")))
    (ga_2 : PySem.W.findIn K (.ref f2) "__getattribute__" = some (some (.builtin "BaseException.__getattribute__")))
    (gg_2 : PySem.W.findIn K (.ref f2) "__getattr__" = some none)
    (no_2 : PySem.W.findIn K (.ref f2) "name" = some none)
    (iC_2 : PySem.W.findIn K (.ref f2) "__init__" = some (some (.ref f1040)))
    (tI_2 : PySem.W.typeIn K (.ref f1040) = some (.type "function"))
    (kC_2 : PySem.W.keepIn K (.ref f2) = true)
    (eC_2 : PySem.W.subIn K (.ref f2) (.type "BaseException") = some true)
    (tC_2 : PySem.W.typeIn K (.ref f2) = some (.type "type"))
    (hC_2 : PySem.W.hasDictIn K f2 = true)
    (isC_2 : PySem.W.isClsIn K f2 = true)
    (isa_2 : PySem.W.findIn K (.ref f2) "__class__" = some (some (.builtin "object.__class__")))
    (isn_2 : PySem.W.specialIn K (.builtin "object.__class__") "__get__" = some (some (.builtin "getset_descriptor.__get__")))
    (ist_2 : PySem.W.takesIn K (.builtin "object.__class__") = some true)
    (ism_2 : PySem.W.mroIn K f2 (.type "object") = some true)
    (l1040 : K.lookup f1040 = some ⟨oc1040, od1040, .func (PySem.W.fnOf "__init__" "InvalidName.__init__" (defArgs (topM 2 0)) (defBody (topM 2 0)) (defScope (topM 2 0)) .none kV1040 dc1040 pm1040 an1040 cd1040 ct1040), sl1040⟩)
    (c1040 : PySem.W.codeIn K cd1040 "InvalidName.__init__" = true)
    (k1040 : PySem.W.keepIn K (.ref f1040) = true)
    {nm3 qn3 : Str} {N3 : Addr} {bs3 bm3 : List Value} {sn3 : List Str} {sub3 : List Value} {ab3 : Bool} {col3 : Option Bool} {dd3 : Option Addr} {u0_3 u1_3 u2_3 u3_3 u5_3 : Option Value}
    {f1060 : Addr} {oc1060 kV1060 dc1060 pm1060 cd1060 ct1060 : Value} {od1060 an1060 : Option Addr} {sl1060 : Array (Option Value)}
    (xL_3 : K.lookup f3 = some (excClassObj nm3 qn3 f3 N3 bs3 bm3 true sn3 sub3 ab3 col3 dd3 u0_3 u1_3 u2_3 u3_3 u5_3 "ValueError.__new__"))
    (rv_3 : PySem.HandSPX.refsVE bm3 = true)
    (sa_3 : PySem.W.findIn K (.ref f3) "__setattr__" = some (some (.builtin "object.__setattr__")))
    (ga_3 : PySem.W.findIn K (.ref f3) "__getattribute__" = some (some (.builtin "BaseException.__getattribute__")))
    (gg_3 : PySem.W.findIn K (.ref f3) "__getattr__" = some none)
    (no_3 : PySem.W.findIn K (.ref f3) "name" = some none)
    (iC_3 : PySem.W.findIn K (.ref f3) "__init__" = some (some (.ref f1060)))
    (tI_3 : PySem.W.typeIn K (.ref f1060) = some (.type "function"))
    (kC_3 : PySem.W.keepIn K (.ref f3) = true)
    (eC_3 : PySem.W.subIn K (.ref f3) (.type "BaseException") = some true)
    (tC_3 : PySem.W.typeIn K (.ref f3) = some (.type "type"))
    (hC_3 : PySem.W.hasDictIn K f3 = true)
    (isC_3 : PySem.W.isClsIn K f3 = true)
    (isa_3 : PySem.W.findIn K (.ref f3) "__class__" = some (some (.builtin "object.__class__")))
    (isn_3 : PySem.W.specialIn K (.builtin "object.__class__") "__get__" = some (some (.builtin "getset_descriptor.__get__")))
    (ist_3 : PySem.W.takesIn K (.builtin "object.__class__") = some true)
    (ism_3 : PySem.W.mroIn K f3 (.type "object") = some true)
    (l1060 : K.lookup f1060 = some ⟨oc1060, od1060, .func (PySem.W.fnOf "__init__" "InvalidPart.__init__" (defArgs (topM 3 0)) (defBody (topM 3 0)) (defScope (topM 3 0)) .none kV1060 dc1060 pm1060 an1060 cd1060 ct1060), sl1060⟩)
    (c1060 : PySem.W.codeIn K cd1060 "InvalidPart.__init__" = true)
    (k1060 : PySem.W.keepIn K (.ref f1060) = true)
    (sb_2_1 : PySem.W.subIn K (.ref f2) (.ref f1) = some true) (ki_2_1 : PySem.W.kitOne K (.ref f2) (.ref f1) = some true)
    (eC_1 : PySem.W.subIn K (.ref f1) (.type "BaseException") = some true)
    (tC_1 : PySem.W.typeIn K (.ref f1) = some (.type "type"))
    (hC_1 : PySem.W.hasDictIn K f1 = true)
    (sb_2_2 : PySem.W.subIn K (.ref f2) (.ref f2) = some true) (ki_2_2 : PySem.W.kitOne K (.ref f2) (.ref f2) = some true)
    (sb_2_3 : PySem.W.subIn K (.ref f2) (.ref f3) = some false) (ki_2_3 : PySem.W.kitOne K (.ref f2) (.ref f3) = some false)
    (kv_2 : PySem.W.kitOne K (.ref f2) (.type "ValueError") = some true)
    (rd_1 : PySem.W.readsIn K f1 (.type "type") = true)
    (sg_1 : PySem.W.specialIn K (.ref f1) "__getattribute__" = some (some (.builtin "type.__getattribute__")))
    (it_1 : PySem.W.findCls K (.ref f1) (.type "type") "__init__" = some (.val (.builtin "ValueError.__init__")))
    (sb_3_1 : PySem.W.subIn K (.ref f3) (.ref f1) = some true) (ki_3_1 : PySem.W.kitOne K (.ref f3) (.ref f1) = some true)
    (sb_3_2 : PySem.W.subIn K (.ref f3) (.ref f2) = some false) (ki_3_2 : PySem.W.kitOne K (.ref f3) (.ref f2) = some false)
    (sb_3_3 : PySem.W.subIn K (.ref f3) (.ref f3) = some true) (ki_3_3 : PySem.W.kitOne K (.ref f3) (.ref f3) = some true)
    (kv_3 : PySem.W.kitOne K (.ref f3) (.type "ValueError") = some true)
    {f11 : Addr}
    (a11 : PySem.W.nsIn K mainGlobals "Part" = some (some (.ref f11)))
    (pg11 : PySem.W.plainGet K f11 Str.empty = true)
    (hd11 : PySem.W.hasDictIn K f11 = true)
    (po11 : PySem.W.plainOver K f11 = true)
    (os11 : PySem.W.findIn K (.ref f11) "__setattr__" = some (some (.builtin "object.__setattr__")))
    (rd11 : PySem.W.readsIn K f11 (.type "type") = true)
    (og11 : PySem.W.specialIn K (.ref f11) "__getattribute__" = some (some (.builtin "type.__getattribute__")))
    (sf11 : PySem.W.selfFirst K f11 = true)
    (n11_word : PySem.W.findIn K (.ref f11) "word" = some none)
    (n11_name : PySem.W.findIn K (.ref f11) "name" = some none)
    (n11_shown : PySem.W.findIn K (.ref f11) "shown" = some none)
    (n11_hidden : PySem.W.findIn K (.ref f11) "hidden" = some none)
    (n11_constraints : PySem.W.findIn K (.ref f11) "constraints" = some none)
    (mk11 : PySem.W.makesIn K f11 = true)
    (kp11 : PySem.W.keepIn K (.ref f11) = true)
    {oc1220 kV1220 dc1220 pm1220 cd1220 ct1220 : Value} {od1220 an1220 : Option Addr} {sl1220 : Array (Option Value)} {f1220 : Addr}
    (at1220 : PySem.W.findIn K (.ref f11) "__init__" = some (some (.ref f1220)))
    (fn1220 : PySem.W.isFn K (.ref f1220) = true)
    (l1220 : K.lookup f1220 = some ⟨oc1220, od1220, .func (PySem.W.fnOf "__init__" "Part.__init__" (defArgs (topM 11 0)) (defBody (topM 11 0)) (defScope (topM 11 0)) .none kV1220 dc1220 pm1220 an1220 cd1220 ct1220), sl1220⟩)
    (c1220 : PySem.W.codeIn K cd1220 "Part.__init__" = true)
    (k1220 : PySem.W.keepIn K (.ref f1220) = true)
    {oc1221 kV1221 dc1221 pm1221 cd1221 ct1221 : Value} {od1221 an1221 : Option Addr} {sl1221 : Array (Option Value)} {f1221 : Addr} {p1221 : Addr} {re1221 : List Value}
    (at1221 : PySem.W.findCls K (.ref f11) (.type "type") "bare" = some (.get (.builtin "classmethod.__get__") (.ref p1221) .none (.ref f11)))
    (rc1221 : PySem.W.recIn K p1221 "classmethod" = some (.ref f1221 :: re1221))
    (fi1221 : PySem.W.fnIn K f1221 = true)
    (l1221 : K.lookup f1221 = some ⟨oc1221, od1221, .func (PySem.W.fnOf "bare" "Part.bare" (defArgs (topM 11 1)) (defBody (topM 11 1)) (defScope (topM 11 1)) .none kV1221 dc1221 pm1221 an1221 cd1221 ct1221), sl1221⟩)
    (c1221 : PySem.W.codeIn K cd1221 "Part.bare" = true)
    (k1221 : PySem.W.keepIn K (.ref f1221) = true)
    {oc1222 kV1222 dc1222 pm1222 cd1222 ct1222 : Value} {od1222 an1222 : Option Addr} {sl1222 : Array (Option Value)} {f1222 : Addr} {p1222 : Addr} {re1222 : List Value}
    (at1222 : PySem.W.findIn K (.ref f11) "names" = some (some (.ref p1222)))
    (ge1222 : PySem.W.specialIn K (.ref p1222) "__get__" = some (some (.builtin "property.__get__")))
    (ta1222 : PySem.W.takesIn K (.ref p1222) = some true)
    (rc1222 : PySem.W.recIn K p1222 "property" = some (.ref f1222 :: re1222))
    (l1222 : K.lookup f1222 = some ⟨oc1222, od1222, .func (PySem.W.fnOf "names" "Part.names" (defArgs (topM 11 2)) (defBody (topM 11 2)) (defScope (topM 11 2)) .none kV1222 dc1222 pm1222 an1222 cd1222 ct1222), sl1222⟩)
    (c1222 : PySem.W.codeIn K cd1222 "Part.names" = true)
    (k1222 : PySem.W.keepIn K (.ref f1222) = true)
    {oc1223 kV1223 dc1223 pm1223 cd1223 ct1223 : Value} {od1223 an1223 : Option Addr} {sl1223 : Array (Option Value)} {f1223 : Addr} {p1223 : Addr} {re1223 : List Value}
    (at1223 : PySem.W.findIn K (.ref f11) "theory" = some (some (.ref p1223)))
    (ge1223 : PySem.W.specialIn K (.ref p1223) "__get__" = some (some (.builtin "property.__get__")))
    (ta1223 : PySem.W.takesIn K (.ref p1223) = some true)
    (rc1223 : PySem.W.recIn K p1223 "property" = some (.ref f1223 :: re1223))
    (l1223 : K.lookup f1223 = some ⟨oc1223, od1223, .func (PySem.W.fnOf "theory" "Part.theory" (defArgs (topM 11 3)) (defBody (topM 11 3)) (defScope (topM 11 3)) .none kV1223 dc1223 pm1223 an1223 cd1223 ct1223), sl1223⟩)
    (c1223 : PySem.W.codeIn K cd1223 "Part.theory" = true)
    (k1223 : PySem.W.keepIn K (.ref f1223) = true)
    {oc1224 kV1224 dc1224 pm1224 cd1224 ct1224 : Value} {od1224 an1224 : Option Addr} {sl1224 : Array (Option Value)} {f1224 : Addr}
    (at1224 : PySem.W.findIn K (.ref f11) "__len__" = some (some (.ref f1224)))
    (fn1224 : PySem.W.isFn K (.ref f1224) = true)
    (l1224 : K.lookup f1224 = some ⟨oc1224, od1224, .func (PySem.W.fnOf "__len__" "Part.__len__" (defArgs (topM 11 4)) (defBody (topM 11 4)) (defScope (topM 11 4)) .none kV1224 dc1224 pm1224 an1224 cd1224 ct1224), sl1224⟩)
    (c1224 : PySem.W.codeIn K cd1224 "Part.__len__" = true)
    (k1224 : PySem.W.keepIn K (.ref f1224) = true)
    {oc1225 kV1225 dc1225 pm1225 cd1225 ct1225 : Value} {od1225 an1225 : Option Addr} {sl1225 : Array (Option Value)} {f1225 : Addr}
    (at1225 : PySem.W.findIn K (.ref f11) "__iter__" = some (some (.ref f1225)))
    (fn1225 : PySem.W.isFn K (.ref f1225) = true)
    (l1225 : K.lookup f1225 = some ⟨oc1225, od1225, .func (PySem.W.fnOf "__iter__" "Part.__iter__" (defArgs (topM 11 5)) (defBody (topM 11 5)) (defScope (topM 11 5)) .none kV1225 dc1225 pm1225 an1225 cd1225 ct1225), sl1225⟩)
    (c1225 : PySem.W.codeIn K cd1225 "Part.__iter__" = true)
    (k1225 : PySem.W.keepIn K (.ref f1225) = true)
    {oc1226 kV1226 dc1226 pm1226 cd1226 ct1226 : Value} {od1226 an1226 : Option Addr} {sl1226 : Array (Option Value)} {f1226 : Addr}
    (at1226 : PySem.W.findIn K (.ref f11) "__contains__" = some (some (.ref f1226)))
    (fn1226 : PySem.W.isFn K (.ref f1226) = true)
    (l1226 : K.lookup f1226 = some ⟨oc1226, od1226, .func (PySem.W.fnOf "__contains__" "Part.__contains__" (defArgs (topM 11 6)) (defBody (topM 11 6)) (defScope (topM 11 6)) .none kV1226 dc1226 pm1226 an1226 cd1226 ct1226), sl1226⟩)
    (c1226 : PySem.W.codeIn K cd1226 "Part.__contains__" = true)
    (k1226 : PySem.W.keepIn K (.ref f1226) = true)
    {oc1227 kV1227 dc1227 pm1227 cd1227 ct1227 : Value} {od1227 an1227 : Option Addr} {sl1227 : Array (Option Value)} {f1227 : Addr}
    (at1227 : PySem.W.findIn K (.ref f11) (PySem.dunder (Operator.Sub).info.2) = some (some (.ref f1227)))
    (fn1227 : PySem.W.isFn K (.ref f1227) = true)
    (l1227 : K.lookup f1227 = some ⟨oc1227, od1227, .func (PySem.W.fnOf "__sub__" "Part.__sub__" (defArgs (topM 11 7)) (defBody (topM 11 7)) (defScope (topM 11 7)) .none kV1227 dc1227 pm1227 an1227 cd1227 ct1227), sl1227⟩)
    (c1227 : PySem.W.codeIn K cd1227 "Part.__sub__" = true)
    (k1227 : PySem.W.keepIn K (.ref f1227) = true)
    {oc1228 kV1228 dc1228 pm1228 cd1228 ct1228 : Value} {od1228 an1228 : Option Addr} {sl1228 : Array (Option Value)} {f1228 : Addr}
    (at1228 : PySem.W.findIn K (.ref f11) "reveal" = some (some (.ref f1228)))
    (fn1228 : PySem.W.isFn K (.ref f1228) = true)
    (l1228 : K.lookup f1228 = some ⟨oc1228, od1228, .func (PySem.W.fnOf "reveal" "Part.reveal" (defArgs (topM 11 8)) (defBody (topM 11 8)) (defScope (topM 11 8)) .none kV1228 dc1228 pm1228 an1228 cd1228 ct1228), sl1228⟩)
    (c1228 : PySem.W.codeIn K cd1228 "Part.reveal" = true)
    (k1228 : PySem.W.keepIn K (.ref f1228) = true)
    {oc1229 kV1229 dc1229 pm1229 cd1229 ct1229 : Value} {od1229 an1229 : Option Addr} {sl1229 : Array (Option Value)} {f1229 : Addr}
    (at1229 : PySem.W.findIn K (.ref f11) "with_constraints" = some (some (.ref f1229)))
    (fn1229 : PySem.W.isFn K (.ref f1229) = true)
    (l1229 : K.lookup f1229 = some ⟨oc1229, od1229, .func (PySem.W.fnOf "with_constraints" "Part.with_constraints" (defArgs (topM 11 9)) (defBody (topM 11 9)) (defScope (topM 11 9)) .none kV1229 dc1229 pm1229 an1229 cd1229 ct1229), sl1229⟩)
    (c1229 : PySem.W.codeIn K cd1229 "Part.with_constraints" = true)
    (k1229 : PySem.W.keepIn K (.ref f1229) = true)
    {oc1230 kV1230 dc1230 pm1230 cd1230 ct1230 : Value} {od1230 an1230 : Option Addr} {sl1230 : Array (Option Value)} {f1230 : Addr}
    (at1230 : PySem.W.findIn K (.ref f11) "called" = some (some (.ref f1230)))
    (fn1230 : PySem.W.isFn K (.ref f1230) = true)
    (l1230 : K.lookup f1230 = some ⟨oc1230, od1230, .func (PySem.W.fnOf "called" "Part.called" (defArgs (topM 11 10)) (defBody (topM 11 10)) (defScope (topM 11 10)) .none kV1230 dc1230 pm1230 an1230 cd1230 ct1230), sl1230⟩)
    (c1230 : PySem.W.codeIn K cd1230 "Part.called" = true)
    (k1230 : PySem.W.keepIn K (.ref f1230) = true)
    {bo11_Sub_str bq11_Sub_str : Option Value}
    (b1_11_Sub_str : PySem.W.findIn K (.ref f11) (PySem.dunderR (Operator.Sub).info.2) = some none)
    (b2_11_Sub_str : PySem.W.findIn K (.type "str") (PySem.dunder (Operator.Sub).info.2) = some bo11_Sub_str)
    (b3_11_Sub_str : PySem.W.findIn K (.type "str") (PySem.dunderR (Operator.Sub).info.2) = some bq11_Sub_str)
    (b4_11_Sub_str : PySem.W.subIn K (.type "str") (.ref f11) = some false)
    {oc7 kV7 dc7 pm7 cd7 ct7 : Value} {od7 an7 : Option Addr} {sl7 : Array (Option Value)} {f7 : Addr}
    (a7 : PySem.W.nsIn K mainGlobals "is_name" = some (some (.ref f7))) (l7 : K.lookup f7 = some ⟨oc7, od7, .func (PySem.W.fnOf "is_name" "is_name" (defArgs (topS 7)) (defBody (topS 7)) (defScope (topS 7)) .none kV7 dc7 pm7 an7 cd7 ct7), sl7⟩) (c7 : PySem.W.codeIn K cd7 "is_name" = true) (k7 : PySem.W.keepIn K (.ref f7) = true)
    {oc8 kV8 dc8 pm8 cd8 ct8 : Value} {od8 an8 : Option Addr} {sl8 : Array (Option Value)} {f8 : Addr}
    (a8 : PySem.W.nsIn K mainGlobals "is_full_name" = some (some (.ref f8))) (l8 : K.lookup f8 = some ⟨oc8, od8, .func (PySem.W.fnOf "is_full_name" "is_full_name" (defArgs (topS 8)) (defBody (topS 8)) (defScope (topS 8)) .none kV8 dc8 pm8 an8 cd8 ct8), sl8⟩) (c8 : PySem.W.codeIn K cd8 "is_full_name" = true) (k8 : PySem.W.keepIn K (.ref f8) = true)
    {oc9 kV9 dc9 pm9 cd9 ct9 : Value} {od9 an9 : Option Addr} {sl9 : Array (Option Value)} {f9 : Addr}
    (a9 : PySem.W.nsIn K mainGlobals "merge_names" = some (some (.ref f9))) (l9 : K.lookup f9 = some ⟨oc9, od9, .func (PySem.W.fnOf "merge_names" "merge_names" (defArgs (topS 9)) (defBody (topS 9)) (defScope (topS 9)) .none kV9 dc9 pm9 an9 cd9 ct9), sl9⟩) (c9 : PySem.W.codeIn K cd9 "merge_names" = true) (k9 : PySem.W.keepIn K (.ref f9) = true)
    {oc13 kV13 dc13 pm13 cd13 ct13 : Value} {od13 an13 : Option Addr} {sl13 : Array (Option Value)} {f13 : Addr}
    (a13 : PySem.W.nsIn K mainGlobals "_law_source" = some (some (.ref f13))) (l13 : K.lookup f13 = some ⟨oc13, od13, .func (PySem.W.fnOf "_law_source" "_law_source" (defArgs (topS 13)) (defBody (topS 13)) (defScope (topS 13)) .none kV13 dc13 pm13 an13 cd13 ct13), sl13⟩) (c13 : PySem.W.codeIn K cd13 "_law_source" = true) (k13 : PySem.W.keepIn K (.ref f13) = true)
    {oc14 kV14 dc14 pm14 cd14 ct14 : Value} {od14 an14 : Option Addr} {sl14 : Array (Option Value)} {f14 : Addr}
    (a14 : PySem.W.nsIn K mainGlobals "_law_draw" = some (some (.ref f14))) (l14 : K.lookup f14 = some ⟨oc14, od14, .func (PySem.W.fnOf "_law_draw" "_law_draw" (defArgs (topS 14)) (defBody (topS 14)) (defScope (topS 14)) .none kV14 dc14 pm14 an14 cd14 ct14), sl14⟩) (c14 : PySem.W.codeIn K cd14 "_law_draw" = true) (k14 : PySem.W.keepIn K (.ref f14) = true)
    {oc15 kV15 dc15 pm15 cd15 ct15 : Value} {od15 an15 : Option Addr} {sl15 : Array (Option Value)} {f15 : Addr}
    (a15 : PySem.W.nsIn K mainGlobals "_law_plain" = some (some (.ref f15))) (l15 : K.lookup f15 = some ⟨oc15, od15, .func (PySem.W.fnOf "_law_plain" "_law_plain" (defArgs (topS 15)) (defBody (topS 15)) (defScope (topS 15)) .none kV15 dc15 pm15 an15 cd15 ct15), sl15⟩) (c15 : PySem.W.codeIn K cd15 "_law_plain" = true) (k15 : PySem.W.keepIn K (.ref f15) = true)
    {oc16 kV16 dc16 pm16 cd16 ct16 : Value} {od16 an16 : Option Addr} {sl16 : Array (Option Value)} {f16 : Addr}
    (a16 : PySem.W.nsIn K mainGlobals "_law_names" = some (some (.ref f16))) (l16 : K.lookup f16 = some ⟨oc16, od16, .func (PySem.W.fnOf "_law_names" "_law_names" (defArgs (topS 16)) (defBody (topS 16)) (defScope (topS 16)) .none kV16 dc16 pm16 an16 cd16 ct16), sl16⟩) (c16 : PySem.W.codeIn K cd16 "_law_names" = true) (k16 : PySem.W.keepIn K (.ref f16) = true)
    {oc17 kV17 dc17 pm17 cd17 ct17 : Value} {od17 an17 : Option Addr} {sl17 : Array (Option Value)} {f17 : Addr}
    (a17 : PySem.W.nsIn K mainGlobals "_law_is_name" = some (some (.ref f17))) (l17 : K.lookup f17 = some ⟨oc17, od17, .func (PySem.W.fnOf "_law_is_name" "_law_is_name" (defArgs (topS 17)) (defBody (topS 17)) (defScope (topS 17)) .none kV17 dc17 pm17 an17 cd17 ct17), sl17⟩) (c17 : PySem.W.codeIn K cd17 "_law_is_name" = true) (k17 : PySem.W.keepIn K (.ref f17) = true)
    {oc18 kV18 dc18 pm18 cd18 ct18 : Value} {od18 an18 : Option Addr} {sl18 : Array (Option Value)} {f18 : Addr}
    (a18 : PySem.W.nsIn K mainGlobals "_law_is_full" = some (some (.ref f18))) (l18 : K.lookup f18 = some ⟨oc18, od18, .func (PySem.W.fnOf "_law_is_full" "_law_is_full" (defArgs (topS 18)) (defBody (topS 18)) (defScope (topS 18)) .none kV18 dc18 pm18 an18 cd18 ct18), sl18⟩) (c18 : PySem.W.codeIn K cd18 "_law_is_full" = true) (k18 : PySem.W.keepIn K (.ref f18) = true)
    {oc19 kV19 dc19 pm19 cd19 ct19 : Value} {od19 an19 : Option Addr} {sl19 : Array (Option Value)} {f19 : Addr}
    (a19 : PySem.W.nsIn K mainGlobals "_law_expected_error" = some (some (.ref f19))) (l19 : K.lookup f19 = some ⟨oc19, od19, .func (PySem.W.fnOf "_law_expected_error" "_law_expected_error" (defArgs (topS 19)) (defBody (topS 19)) (defScope (topS 19)) .none kV19 dc19 pm19 an19 cd19 ct19), sl19⟩) (c19 : PySem.W.codeIn K cd19 "_law_expected_error" = true) (k19 : PySem.W.keepIn K (.ref f19) = true)
    {oc20 kV20 dc20 pm20 cd20 ct20 : Value} {od20 an20 : Option Addr} {sl20 : Array (Option Value)} {f20 : Addr}
    (a20 : PySem.W.nsIn K mainGlobals "_law_raised" = some (some (.ref f20))) (l20 : K.lookup f20 = some ⟨oc20, od20, .func (PySem.W.fnOf "_law_raised" "_law_raised" (defArgs (topS 20)) (defBody (topS 20)) (defScope (topS 20)) .none kV20 dc20 pm20 an20 cd20 ct20), sl20⟩) (c20 : PySem.W.codeIn K cd20 "_law_raised" = true) (k20 : PySem.W.keepIn K (.ref f20) = true)
    {oc21 kV21 dc21 pm21 cd21 ct21 : Value} {od21 an21 : Option Addr} {sl21 : Array (Option Value)} {f21 : Addr}
    (a21 : PySem.W.nsIn K mainGlobals "_law_shows" = some (some (.ref f21))) (l21 : K.lookup f21 = some ⟨oc21, od21, .func (PySem.W.fnOf "_law_shows" "_law_shows" (defArgs (topS 21)) (defBody (topS 21)) (defScope (topS 21)) .none kV21 dc21 pm21 an21 cd21 ct21), sl21⟩) (c21 : PySem.W.codeIn K cd21 "_law_shows" = true) (k21 : PySem.W.keepIn K (.ref f21) = true)
    {oc22 kV22 dc22 pm22 cd22 ct22 : Value} {od22 an22 : Option Addr} {sl22 : Array (Option Value)} {f22 : Addr}
    (a22 : PySem.W.nsIn K mainGlobals "_law_hides" = some (some (.ref f22))) (l22 : K.lookup f22 = some ⟨oc22, od22, .func (PySem.W.fnOf "_law_hides" "_law_hides" (defArgs (topS 22)) (defBody (topS 22)) (defScope (topS 22)) .none kV22 dc22 pm22 an22 cd22 ct22), sl22⟩) (c22 : PySem.W.codeIn K cd22 "_law_hides" = true) (k22 : PySem.W.keepIn K (.ref f22) = true)
    {oc23 kV23 dc23 pm23 cd23 ct23 : Value} {od23 an23 : Option Addr} {sl23 : Array (Option Value)} {f23 : Addr}
    (a23 : PySem.W.nsIn K mainGlobals "_law_reveals" = some (some (.ref f23))) (l23 : K.lookup f23 = some ⟨oc23, od23, .func (PySem.W.fnOf "_law_reveals" "_law_reveals" (defArgs (topS 23)) (defBody (topS 23)) (defScope (topS 23)) .none kV23 dc23 pm23 an23 cd23 ct23), sl23⟩) (c23 : PySem.W.codeIn K cd23 "_law_reveals" = true) (k23 : PySem.W.keepIn K (.ref f23) = true)
    {oc24 kV24 dc24 pm24 cd24 ct24 : Value} {od24 an24 : Option Addr} {sl24 : Array (Option Value)} {f24 : Addr}
    (a24 : PySem.W.nsIn K mainGlobals "_law_moves_right" = some (some (.ref f24))) (l24 : K.lookup f24 = some ⟨oc24, od24, .func (PySem.W.fnOf "_law_moves_right" "_law_moves_right" (defArgs (topS 24)) (defBody (topS 24)) (defScope (topS 24)) .none kV24 dc24 pm24 an24 cd24 ct24), sl24⟩) (c24 : PySem.W.codeIn K cd24 "_law_moves_right" = true) (k24 : PySem.W.keepIn K (.ref f24) = true)
    {oc25 kV25 dc25 pm25 cd25 ct25 : Value} {od25 an25 : Option Addr} {sl25 : Array (Option Value)} {f25 : Addr}
    (a25 : PySem.W.nsIn K mainGlobals "_law_others_right" = some (some (.ref f25))) (l25 : K.lookup f25 = some ⟨oc25, od25, .func (PySem.W.fnOf "_law_others_right" "_law_others_right" (defArgs (topS 25)) (defBody (topS 25)) (defScope (topS 25)) .none kV25 dc25 pm25 an25 cd25 ct25), sl25⟩) (c25 : PySem.W.codeIn K cd25 "_law_others_right" = true) (k25 : PySem.W.keepIn K (.ref f25) = true)
    {oc26 kV26 dc26 pm26 cd26 ct26 : Value} {od26 an26 : Option Addr} {sl26 : Array (Option Value)} {f26 : Addr}
    (a26 : PySem.W.nsIn K mainGlobals "law" = some (some (.ref f26))) (l26 : K.lookup f26 = some ⟨oc26, od26, .func (PySem.W.fnOf "law" "law" (defArgs (topS 26)) (defBody (topS 26)) (defScope (topS 26)) .none kV26 dc26 pm26 an26 cd26 ct26), sl26⟩) (c26 : PySem.W.codeIn K cd26 "law" = true) (k26 : PySem.W.keepIn K (.ref f26) = true)
    (z_len : PySem.W.nsIn K mainGlobals "len" = some none)
    (z_int : PySem.W.nsIn K mainGlobals "int" = some none)
    (z_list : PySem.W.nsIn K mainGlobals "list" = some none)
    (z_tuple : PySem.W.nsIn K mainGlobals "tuple" = some none)
    (z_range : PySem.W.nsIn K mainGlobals "range" = some none)
    (z_sorted : PySem.W.nsIn K mainGlobals "sorted" = some none)
    (z_isinstance : PySem.W.nsIn K mainGlobals "isinstance" = some none)
    (z_iter : PySem.W.nsIn K mainGlobals "iter" = some none)
    (z_ValueError : PySem.W.nsIn K mainGlobals "ValueError" = some none)
    {t_LETTERS : Tok} (x_LETTERS : PySem.W.nsIn K mainGlobals "LETTERS" = some (some (.str "abcdefghijklmnopqrstuvwxyz" t_LETTERS)))
    {t_DIGITS : Tok} (x_DIGITS : PySem.W.nsIn K mainGlobals "DIGITS" = some (some (.str "0123456789" t_DIGITS)))
    : ∃ fd : FuncData, (∀ (s : Shared) (v : Value), BindsTo s fd ⟨[v], []⟩ [("_law_script", v)]) ∧ ∀ base : Heap, K.In base → base.Ns mainGlobals mg → FnOk l.prog w K mg base CX0 8 fa fd ["_law_script"] (sp_law K) := by
  have e := hfa.symm.trans (PySem.W.mg_of X G a26)
  cases e
  let A : Nat → Addr := fun i => match i with
    | 7 => f7
    | 8 => f8
    | 9 => f9
    | 13 => f13
    | 14 => f14
    | 15 => f15
    | 16 => f16
    | 17 => f17
    | 18 => f18
    | 19 => f19
    | 20 => f20
    | 21 => f21
    | 22 => f22
    | 23 => f23
    | 24 => f24
    | 25 => f25
    | 26 => fa
    | 1 => f1
    | 2 => f2
    | 1040 => f1040
    | 3 => f3
    | 1060 => f1060
    | 11 => f11
    | 1220 => f1220
    | 1221 => f1221
    | 6221 => p1221
    | 1222 => f1222
    | 6222 => p1222
    | 1223 => f1223
    | 6223 => p1223
    | 1224 => f1224
    | 1225 => f1225
    | 1226 => f1226
    | 1227 => f1227
    | 1228 => f1228
    | 1229 => f1229
    | 1230 => f1230
    | _ => 0
  let D : Nat → FuncData := fun i => match i with
    | 1040 => PySem.W.fnOf "__init__" "InvalidName.__init__" (defArgs (topM 2 0)) (defBody (topM 2 0)) (defScope (topM 2 0)) .none kV1040 dc1040 pm1040 an1040 cd1040 ct1040
    | 1060 => PySem.W.fnOf "__init__" "InvalidPart.__init__" (defArgs (topM 3 0)) (defBody (topM 3 0)) (defScope (topM 3 0)) .none kV1060 dc1060 pm1060 an1060 cd1060 ct1060
    | 1220 => PySem.W.fnOf "__init__" "Part.__init__" (defArgs (topM 11 0)) (defBody (topM 11 0)) (defScope (topM 11 0)) .none kV1220 dc1220 pm1220 an1220 cd1220 ct1220
    | 1221 => PySem.W.fnOf "bare" "Part.bare" (defArgs (topM 11 1)) (defBody (topM 11 1)) (defScope (topM 11 1)) .none kV1221 dc1221 pm1221 an1221 cd1221 ct1221
    | 1222 => PySem.W.fnOf "names" "Part.names" (defArgs (topM 11 2)) (defBody (topM 11 2)) (defScope (topM 11 2)) .none kV1222 dc1222 pm1222 an1222 cd1222 ct1222
    | 1223 => PySem.W.fnOf "theory" "Part.theory" (defArgs (topM 11 3)) (defBody (topM 11 3)) (defScope (topM 11 3)) .none kV1223 dc1223 pm1223 an1223 cd1223 ct1223
    | 1224 => PySem.W.fnOf "__len__" "Part.__len__" (defArgs (topM 11 4)) (defBody (topM 11 4)) (defScope (topM 11 4)) .none kV1224 dc1224 pm1224 an1224 cd1224 ct1224
    | 1225 => PySem.W.fnOf "__iter__" "Part.__iter__" (defArgs (topM 11 5)) (defBody (topM 11 5)) (defScope (topM 11 5)) .none kV1225 dc1225 pm1225 an1225 cd1225 ct1225
    | 1226 => PySem.W.fnOf "__contains__" "Part.__contains__" (defArgs (topM 11 6)) (defBody (topM 11 6)) (defScope (topM 11 6)) .none kV1226 dc1226 pm1226 an1226 cd1226 ct1226
    | 1227 => PySem.W.fnOf "__sub__" "Part.__sub__" (defArgs (topM 11 7)) (defBody (topM 11 7)) (defScope (topM 11 7)) .none kV1227 dc1227 pm1227 an1227 cd1227 ct1227
    | 1228 => PySem.W.fnOf "reveal" "Part.reveal" (defArgs (topM 11 8)) (defBody (topM 11 8)) (defScope (topM 11 8)) .none kV1228 dc1228 pm1228 an1228 cd1228 ct1228
    | 1229 => PySem.W.fnOf "with_constraints" "Part.with_constraints" (defArgs (topM 11 9)) (defBody (topM 11 9)) (defScope (topM 11 9)) .none kV1229 dc1229 pm1229 an1229 cd1229 ct1229
    | 1230 => PySem.W.fnOf "called" "Part.called" (defArgs (topM 11 10)) (defBody (topM 11 10)) (defScope (topM 11 10)) .none kV1230 dc1230 pm1230 an1230 cd1230 ct1230
    | 7 => PySem.W.fnOf "is_name" "is_name" (defArgs (topS 7)) (defBody (topS 7)) (defScope (topS 7)) .none kV7 dc7 pm7 an7 cd7 ct7
    | 8 => PySem.W.fnOf "is_full_name" "is_full_name" (defArgs (topS 8)) (defBody (topS 8)) (defScope (topS 8)) .none kV8 dc8 pm8 an8 cd8 ct8
    | 9 => PySem.W.fnOf "merge_names" "merge_names" (defArgs (topS 9)) (defBody (topS 9)) (defScope (topS 9)) .none kV9 dc9 pm9 an9 cd9 ct9
    | 13 => PySem.W.fnOf "_law_source" "_law_source" (defArgs (topS 13)) (defBody (topS 13)) (defScope (topS 13)) .none kV13 dc13 pm13 an13 cd13 ct13
    | 14 => PySem.W.fnOf "_law_draw" "_law_draw" (defArgs (topS 14)) (defBody (topS 14)) (defScope (topS 14)) .none kV14 dc14 pm14 an14 cd14 ct14
    | 15 => PySem.W.fnOf "_law_plain" "_law_plain" (defArgs (topS 15)) (defBody (topS 15)) (defScope (topS 15)) .none kV15 dc15 pm15 an15 cd15 ct15
    | 16 => PySem.W.fnOf "_law_names" "_law_names" (defArgs (topS 16)) (defBody (topS 16)) (defScope (topS 16)) .none kV16 dc16 pm16 an16 cd16 ct16
    | 17 => PySem.W.fnOf "_law_is_name" "_law_is_name" (defArgs (topS 17)) (defBody (topS 17)) (defScope (topS 17)) .none kV17 dc17 pm17 an17 cd17 ct17
    | 18 => PySem.W.fnOf "_law_is_full" "_law_is_full" (defArgs (topS 18)) (defBody (topS 18)) (defScope (topS 18)) .none kV18 dc18 pm18 an18 cd18 ct18
    | 19 => PySem.W.fnOf "_law_expected_error" "_law_expected_error" (defArgs (topS 19)) (defBody (topS 19)) (defScope (topS 19)) .none kV19 dc19 pm19 an19 cd19 ct19
    | 20 => PySem.W.fnOf "_law_raised" "_law_raised" (defArgs (topS 20)) (defBody (topS 20)) (defScope (topS 20)) .none kV20 dc20 pm20 an20 cd20 ct20
    | 21 => PySem.W.fnOf "_law_shows" "_law_shows" (defArgs (topS 21)) (defBody (topS 21)) (defScope (topS 21)) .none kV21 dc21 pm21 an21 cd21 ct21
    | 22 => PySem.W.fnOf "_law_hides" "_law_hides" (defArgs (topS 22)) (defBody (topS 22)) (defScope (topS 22)) .none kV22 dc22 pm22 an22 cd22 ct22
    | 23 => PySem.W.fnOf "_law_reveals" "_law_reveals" (defArgs (topS 23)) (defBody (topS 23)) (defScope (topS 23)) .none kV23 dc23 pm23 an23 cd23 ct23
    | 24 => PySem.W.fnOf "_law_moves_right" "_law_moves_right" (defArgs (topS 24)) (defBody (topS 24)) (defScope (topS 24)) .none kV24 dc24 pm24 an24 cd24 ct24
    | 25 => PySem.W.fnOf "_law_others_right" "_law_others_right" (defArgs (topS 25)) (defBody (topS 25)) (defScope (topS 25)) .none kV25 dc25 pm25 an25 cd25 ct25
    | 26 => PySem.W.fnOf "law" "law" (defArgs (topS 26)) (defBody (topS 26)) (defScope (topS 26)) .none kV26 dc26 pm26 an26 cd26 ct26
    | _ => PySem.W.fnOf "law" "law" (defArgs (topS 26)) (defBody (topS 26)) (defScope (topS 26)) .none kV26 dc26 pm26 an26 cd26 ct26
  have T : Txt K mg A D := {
    g_ShadowError := PySem.W.mg_of X G a1
    g_InvalidName := PySem.W.mg_of X G a2
    E_InvalidName := { gC := PySem.W.mg_of X G a2, oex := ⟨⟨_, _, _, _, _, _, _, _, _, _, _, _, _, _, _, xL_2, rv_2⟩, sa_2, eC_2, tC_2, kC_2⟩, no := no_2, iC := iC_2, tI := tI_2, xf := ⟨ga_2, gg_2, eC_2, hC_2⟩, isa := isa_2, isn := isn_2, ist := ist_2, ism := ism_2, isc := isC_2, F := fun_mk (st := (topM 2 0)) l1040 c1040 k1040, b := (fun_mk (st := (topM 2 0)) l1040 c1040 k1040).binds (ps := ["self", "name"]) fun _ _ _ _ _ _ us hl => match us, hl with | [_, _], _ => rfl }
    x_InvalidName_ShadowError := PySem.W.exm_ref eC_1 hC_1 tC_1 sb_2_1
    k_InvalidName_ShadowError := ki_2_1
    x_InvalidName_InvalidName := PySem.W.exm_ref eC_2 hC_2 tC_2 sb_2_2
    k_InvalidName_InvalidName := ki_2_2
    x_InvalidName_InvalidPart := PySem.W.exm_ref eC_3 hC_3 tC_3 sb_2_3
    k_InvalidName_InvalidPart := ki_2_3
    kv_InvalidName := kv_2
    S_InvalidName := ⟨rd_1, sg_1, it_1⟩
    g_InvalidPart := PySem.W.mg_of X G a3
    E_InvalidPart := { gC := PySem.W.mg_of X G a3, oex := ⟨⟨_, _, _, _, _, _, _, _, _, _, _, _, _, _, _, xL_3, rv_3⟩, sa_3, eC_3, tC_3, kC_3⟩, no := no_3, iC := iC_3, tI := tI_3, xf := ⟨ga_3, gg_3, eC_3, hC_3⟩, isa := isa_3, isn := isn_3, ist := ist_3, ism := ism_3, isc := isC_3, F := fun_mk (st := (topM 3 0)) l1060 c1060 k1060, b := (fun_mk (st := (topM 3 0)) l1060 c1060 k1060).binds (ps := ["self", "name"]) fun _ _ _ _ _ _ us hl => match us, hl with | [_, _], _ => rfl }
    x_InvalidPart_ShadowError := PySem.W.exm_ref eC_1 hC_1 tC_1 sb_3_1
    k_InvalidPart_ShadowError := ki_3_1
    x_InvalidPart_InvalidName := PySem.W.exm_ref eC_2 hC_2 tC_2 sb_3_2
    k_InvalidPart_InvalidName := ki_3_2
    x_InvalidPart_InvalidPart := PySem.W.exm_ref eC_3 hC_3 tC_3 sb_3_3
    k_InvalidPart_InvalidPart := ki_3_3
    kv_InvalidPart := kv_3
    S_InvalidPart := ⟨rd_1, sg_1, it_1⟩
    g_Part := PySem.W.mg_of X G a11
    cl_Part := ⟨pg11, hd11, po11, os11⟩
    cr_Part := ⟨rd11, og11⟩
    sf_Part := sf11
    n_Part_word := n11_word
    n_Part_name := n11_name
    n_Part_shown := n11_shown
    n_Part_hidden := n11_hidden
    n_Part_constraints := n11_constraints
    mk_Part := ⟨mk11, at1220, fn1220, kp11⟩
    F_Part___init__ := fun_mk (st := (topM 11 0)) l1220 c1220 k1220
    b_Part___init__ := (fun_mk (st := (topM 11 0)) l1220 c1220 k1220).binds (ps := ["self", "word", "name", "shown", "hidden", "constraints"]) fun _ _ _ _ _ _ us hl => match us, hl with | [_, _, _, _, _, _], _ => rfl
    M_Part___init__ := ⟨at1220, fn1220, k1220⟩
    F_Part_bare := fun_mk (st := (topM 11 1)) l1221 c1221 k1221
    b_Part_bare := (fun_mk (st := (topM 11 1)) l1221 c1221 k1221).binds (ps := ["cls", "word", "name"]) fun _ _ _ _ _ _ us hl => match us, hl with | [_, _, _], _ => rfl
    C_Part_bare := ⟨at1221, ⟨_, rc1221⟩, fi1221⟩
    F_Part_names := fun_mk (st := (topM 11 2)) l1222 c1222 k1222
    b_Part_names := (fun_mk (st := (topM 11 2)) l1222 c1222 k1222).binds (ps := ["self"]) fun _ _ _ _ _ _ us hl => match us, hl with | [_], _ => rfl
    P_Part_names := ⟨at1222, ge1222, ta1222, ⟨_, rc1222⟩⟩
    F_Part_theory := fun_mk (st := (topM 11 3)) l1223 c1223 k1223
    b_Part_theory := (fun_mk (st := (topM 11 3)) l1223 c1223 k1223).binds (ps := ["self"]) fun _ _ _ _ _ _ us hl => match us, hl with | [_], _ => rfl
    P_Part_theory := ⟨at1223, ge1223, ta1223, ⟨_, rc1223⟩⟩
    F_Part___len__ := fun_mk (st := (topM 11 4)) l1224 c1224 k1224
    b_Part___len__ := (fun_mk (st := (topM 11 4)) l1224 c1224 k1224).binds (ps := ["self"]) fun _ _ _ _ _ _ us hl => match us, hl with | [_], _ => rfl
    M_Part___len__ := ⟨at1224, fn1224, k1224⟩
    F_Part___iter__ := fun_mk (st := (topM 11 5)) l1225 c1225 k1225
    b_Part___iter__ := (fun_mk (st := (topM 11 5)) l1225 c1225 k1225).binds (ps := ["self"]) fun _ _ _ _ _ _ us hl => match us, hl with | [_], _ => rfl
    M_Part___iter__ := ⟨at1225, fn1225, k1225⟩
    F_Part___contains__ := fun_mk (st := (topM 11 6)) l1226 c1226 k1226
    b_Part___contains__ := (fun_mk (st := (topM 11 6)) l1226 c1226 k1226).binds (ps := ["self", "name"]) fun _ _ _ _ _ _ us hl => match us, hl with | [_, _], _ => rfl
    M_Part___contains__ := ⟨at1226, fn1226, k1226⟩
    F_Part___sub__ := fun_mk (st := (topM 11 7)) l1227 c1227 k1227
    b_Part___sub__ := (fun_mk (st := (topM 11 7)) l1227 c1227 k1227).binds (ps := ["self", "name"]) fun _ _ _ _ _ _ us hl => match us, hl with | [_, _], _ => rfl
    M_Part___sub__ := ⟨at1227, fn1227, k1227⟩
    F_Part_reveal := fun_mk (st := (topM 11 8)) l1228 c1228 k1228
    b_Part_reveal := (fun_mk (st := (topM 11 8)) l1228 c1228 k1228).binds (ps := ["self", "name"]) fun _ _ _ _ _ _ us hl => match us, hl with | [_, _], _ => rfl
    M_Part_reveal := ⟨at1228, fn1228, k1228⟩
    F_Part_with_constraints := fun_mk (st := (topM 11 9)) l1229 c1229 k1229
    b_Part_with_constraints := (fun_mk (st := (topM 11 9)) l1229 c1229 k1229).binds (ps := ["self", "constraints"]) fun _ _ _ _ _ _ us hl => match us, hl with | [_, _], _ => rfl
    M_Part_with_constraints := ⟨at1229, fn1229, k1229⟩
    F_Part_called := fun_mk (st := (topM 11 10)) l1230 c1230 k1230
    b_Part_called := (fun_mk (st := (topM 11 10)) l1230 c1230 k1230).binds (ps := ["self", "name"]) fun _ _ _ _ _ _ us hl => match us, hl with | [_, _], _ => rfl
    M_Part_called := ⟨at1230, fn1230, k1230⟩
    B_Part_Sub_str := ⟨sf11, ⟨_, b1_11_Sub_str, .inl rfl⟩, ⟨_, b2_11_Sub_str⟩, ⟨_, b3_11_Sub_str⟩, b4_11_Sub_str⟩
    F_is_name := fun_mk (st := topS 7) l7 c7 k7
    g_is_name := PySem.W.mg_of X G a7
    b_is_name := (fun_mk (st := topS 7) l7 c7 k7).binds (ps := ["text"]) fun _ _ _ _ _ _ us hl => match us, hl with | [_], _ => rfl
    F_is_full_name := fun_mk (st := topS 8) l8 c8 k8
    g_is_full_name := PySem.W.mg_of X G a8
    b_is_full_name := (fun_mk (st := topS 8) l8 c8 k8).binds (ps := ["text"]) fun _ _ _ _ _ _ us hl => match us, hl with | [_], _ => rfl
    F_merge_names := fun_mk (st := topS 9) l9 c9 k9
    g_merge_names := PySem.W.mg_of X G a9
    F__law_source := fun_mk (st := topS 13) l13 c13 k13
    g__law_source := PySem.W.mg_of X G a13
    b__law_source := (fun_mk (st := topS 13) l13 c13 k13).binds (ps := ["_law_script", "_law_k"]) fun _ _ _ _ _ _ us hl => match us, hl with | [_, _], _ => rfl
    F__law_draw := fun_mk (st := topS 14) l14 c14 k14
    g__law_draw := PySem.W.mg_of X G a14
    b__law_draw := (fun_mk (st := topS 14) l14 c14 k14).binds (ps := ["_law_source_here", "_law_limit"]) fun _ _ _ _ _ _ us hl => match us, hl with | [_, _], _ => rfl
    F__law_plain := fun_mk (st := topS 15) l15 c15 k15
    g__law_plain := PySem.W.mg_of X G a15
    b__law_plain := (fun_mk (st := topS 15) l15 c15 k15).binds (ps := ["_law_source_here"]) fun _ _ _ _ _ _ us hl => match us, hl with | [_], _ => rfl
    F__law_names := fun_mk (st := topS 16) l16 c16 k16
    g__law_names := PySem.W.mg_of X G a16
    b__law_names := (fun_mk (st := topS 16) l16 c16 k16).binds (ps := ["_law_source_here", "_law_dotted"]) fun _ _ _ _ _ _ us hl => match us, hl with | [_, _], _ => rfl
    F__law_is_name := fun_mk (st := topS 17) l17 c17 k17
    g__law_is_name := PySem.W.mg_of X G a17
    b__law_is_name := (fun_mk (st := topS 17) l17 c17 k17).binds (ps := ["_law_text"]) fun _ _ _ _ _ _ us hl => match us, hl with | [_], _ => rfl
    F__law_is_full := fun_mk (st := topS 18) l18 c18 k18
    g__law_is_full := PySem.W.mg_of X G a18
    b__law_is_full := (fun_mk (st := topS 18) l18 c18 k18).binds (ps := ["_law_text"]) fun _ _ _ _ _ _ us hl => match us, hl with | [_], _ => rfl
    F__law_expected_error := fun_mk (st := topS 19) l19 c19 k19
    g__law_expected_error := PySem.W.mg_of X G a19
    b__law_expected_error := (fun_mk (st := topS 19) l19 c19 k19).binds (ps := ["_law_name", "_law_shown", "_law_hidden"]) fun _ _ _ _ _ _ us hl => match us, hl with | [_, _, _], _ => rfl
    F__law_raised := fun_mk (st := topS 20) l20 c20 k20
    g__law_raised := PySem.W.mg_of X G a20
    b__law_raised := (fun_mk (st := topS 20) l20 c20 k20).binds (ps := ["_law_name", "_law_shown", "_law_hidden"]) fun _ _ _ _ _ _ us hl => match us, hl with | [_, _, _], _ => rfl
    F__law_shows := fun_mk (st := topS 21) l21 c21 k21
    g__law_shows := PySem.W.mg_of X G a21
    b__law_shows := (fun_mk (st := topS 21) l21 c21 k21).binds (ps := ["_law_part", "_law_shown", "_law_hidden", "_law_constraints"]) fun _ _ _ _ _ _ us hl => match us, hl with | [_, _, _, _], _ => rfl
    F__law_hides := fun_mk (st := topS 22) l22 c22 k22
    g__law_hides := PySem.W.mg_of X G a22
    b__law_hides := (fun_mk (st := topS 22) l22 c22 k22).binds (ps := ["_law_part", "_law_name"]) fun _ _ _ _ _ _ us hl => match us, hl with | [_, _], _ => rfl
    F__law_reveals := fun_mk (st := topS 23) l23 c23 k23
    g__law_reveals := PySem.W.mg_of X G a23
    b__law_reveals := (fun_mk (st := topS 23) l23 c23 k23).binds (ps := ["_law_part", "_law_name"]) fun _ _ _ _ _ _ us hl => match us, hl with | [_, _], _ => rfl
    F__law_moves_right := fun_mk (st := topS 24) l24 c24 k24
    g__law_moves_right := PySem.W.mg_of X G a24
    b__law_moves_right := (fun_mk (st := topS 24) l24 c24 k24).binds (ps := ["_law_part", "_law_name", "_law_shown", "_law_hidden", "_law_constraints"]) fun _ _ _ _ _ _ us hl => match us, hl with | [_, _, _, _, _], _ => rfl
    F__law_others_right := fun_mk (st := topS 25) l25 c25 k25
    g__law_others_right := PySem.W.mg_of X G a25
    b__law_others_right := (fun_mk (st := topS 25) l25 c25 k25).binds (ps := ["_law_part", "_law_shown", "_law_hidden", "_law_constraints"]) fun _ _ _ _ _ _ us hl => match us, hl with | [_, _, _, _], _ => rfl
    F_law := fun_mk (st := topS 26) l26 c26 k26
    g_law := PySem.W.mg_of X G a26
    b_law := (fun_mk (st := topS 26) l26 c26 k26).binds (ps := ["_law_script"]) fun _ _ _ _ _ _ us hl => match us, hl with | [_], _ => rfl
    z_len := PySem.W.mg_none_of X G z_len
    z_int := PySem.W.mg_none_of X G z_int
    z_list := PySem.W.mg_none_of X G z_list
    z_tuple := PySem.W.mg_none_of X G z_tuple
    z_range := PySem.W.mg_none_of X G z_range
    z_sorted := PySem.W.mg_none_of X G z_sorted
    z_isinstance := PySem.W.mg_none_of X G z_isinstance
    z_iter := PySem.W.mg_none_of X G z_iter
    z_ValueError := PySem.W.mg_none_of X G z_ValueError
    c_LETTERS := ⟨t_LETTERS, PySem.W.mg_of X G x_LETTERS⟩
    c_DIGITS := ⟨t_DIGITS, PySem.W.mg_of X G x_DIGITS⟩
  }
  exact ⟨D 26, fun s v => .of_eq rfl, fun base _ _ => ok_law T⟩
theorem walk {l : PySem.W.OpenLaw} {q : Program} {loose : List Str} {XP : (Str → Option Value) → Heap → Prop} {YP : World → Heap → Prop} {d : DefRec} {K : Params → PySem.W.Frag} (hn : l.most = some 63) (hdf : d.params.defaults = [])
    (hY : ∀ (w : World) (h : Heap), YP w h → (K w.params).In h)
    (F : ∀ (w : World) (mg : Str → Option Value) (fa : Addr) (h : Heap), (K w.params).In h → h.Ns mainGlobals mg → mg d.name = some (.ref fa) →
      ∃ fd : FuncData, (∀ (s : Shared) (u : Value), BindsTo s fd ⟨[u], []⟩ [("_law_script", u)]) ∧ ∀ base : Heap, (K w.params).In base → base.Ns mainGlobals mg → FnOk l.prog w (K w.params) mg base CX0 8 fa fd ["_law_script"] (sp_law (K w.params))) :
    PySem.W.WalkO q loose XP YP l.row.toRowW d [] (fun f vs => PySem.call f vs) :=
  L2.walk_of (n := 63) (k := 8) (x := "_law_script") (CX := fun _ => CX0) (sp := fun w => sp_law (K w.params)) hn (by decide) hdf ⟨rfl, by decide, by decide⟩ hY F (fun _ H a ns hl hO hS => ⟨a, ns, rfl, hS, hl, fun _ => rfl⟩) fun _ _ _ _ _ z => z
end Sl
open PySem PySem.W PyProof.Rows
set_option maxRecDepth 100000 in
set_option maxHeartbeats 0 in
theorem PySem.Challenge.cw_shadowlinks_k02_parts_holds : PySem.Challenge.rw_shadowlinks_k02_parts.Holds := by
  w_on; o_law; k_head; (case hw => w_witness2)
  k_fill
  refine Sl.walk (l := PySem.Challenge.rw_shadowlinks_k02_parts) rfl rfl (fun w h Y => PySem.W.kIn_of Y) ?F
  case F =>
    intro w mg fa h KX G hmg
    refine' Sl.all_mk KX G hmg ?a1 ?a2 ?a3 ?xL_2 ?rv_2 ?sa_2 ?ga_2 ?gg_2 ?no_2 ?iC_2 ?tI_2 ?kC_2 ?eC_2 ?tC_2 ?hC_2 ?isC_2 ?isa_2 ?isn_2 ?ist_2 ?ism_2 ?l1040 ?c1040 ?k1040 ?xL_3 ?rv_3 ?sa_3 ?ga_3 ?gg_3 ?no_3 ?iC_3 ?tI_3 ?kC_3 ?eC_3 ?tC_3 ?hC_3 ?isC_3 ?isa_3 ?isn_3 ?ist_3 ?ism_3 ?l1060 ?c1060 ?k1060 ?sb_2_1 ?ki_2_1 ?eC_1 ?tC_1 ?hC_1 ?sb_2_2 ?ki_2_2 ?sb_2_3 ?ki_2_3 ?kv_2 ?rd_1 ?sg_1 ?it_1 ?sb_3_1 ?ki_3_1 ?sb_3_2 ?ki_3_2 ?sb_3_3 ?ki_3_3 ?kv_3 ?a11 ?pg11 ?hd11 ?po11 ?os11 ?rd11 ?og11 ?sf11 ?n11_word ?n11_name ?n11_shown ?n11_hidden ?n11_constraints ?mk11 ?kp11 ?at1220 ?fn1220 ?l1220 ?c1220 ?k1220 ?at1221 ?rc1221 ?fi1221 ?l1221 ?c1221 ?k1221 ?at1222 ?ge1222 ?ta1222 ?rc1222 ?l1222 ?c1222 ?k1222 ?at1223 ?ge1223 ?ta1223 ?rc1223 ?l1223 ?c1223 ?k1223 ?at1224 ?fn1224 ?l1224 ?c1224 ?k1224 ?at1225 ?fn1225 ?l1225 ?c1225 ?k1225 ?at1226 ?fn1226 ?l1226 ?c1226 ?k1226 ?at1227 ?fn1227 ?l1227 ?c1227 ?k1227 ?at1228 ?fn1228 ?l1228 ?c1228 ?k1228 ?at1229 ?fn1229 ?l1229 ?c1229 ?k1229 ?at1230 ?fn1230 ?l1230 ?c1230 ?k1230 ?b1_11_Sub_str ?b2_11_Sub_str ?b3_11_Sub_str ?b4_11_Sub_str ?a7 ?l7 ?c7 ?k7 ?a8 ?l8 ?c8 ?k8 ?a9 ?l9 ?c9 ?k9 ?a13 ?l13 ?c13 ?k13 ?a14 ?l14 ?c14 ?k14 ?a15 ?l15 ?c15 ?k15 ?a16 ?l16 ?c16 ?k16 ?a17 ?l17 ?c17 ?k17 ?a18 ?l18 ?c18 ?k18 ?a19 ?l19 ?c19 ?k19 ?a20 ?l20 ?c20 ?k20 ?a21 ?l21 ?c21 ?k21 ?a22 ?l22 ?c22 ?k22 ?a23 ?l23 ?c23 ?k23 ?a24 ?l24 ?c24 ?k24 ?a25 ?l25 ?c25 ?k25 ?a26 ?l26 ?c26 ?k26 ?z_len ?z_int ?z_list ?z_tuple ?z_range ?z_sorted ?z_isinstance ?z_iter ?z_ValueError ?x_LETTERS ?x_DIGITS
    (case a1 => k_is)
    (case a2 => k_is)
    (case a3 => k_is)
    (case xL_2 => k_is)
    (case rv_2 => decide +kernel)
    (case sa_2 => k_is)
    (case ga_2 => k_is)
    (case gg_2 => k_is)
    (case no_2 => k_is)
    (case iC_2 => k_is)
    (case tI_2 => k_is)
    (case kC_2 => k_is)
    (case eC_2 => k_is)
    (case tC_2 => k_is)
    (case hC_2 => k_is)
    (case isC_2 => k_is)
    (case isa_2 => k_is)
    (case isn_2 => k_is)
    (case ist_2 => k_is)
    (case ism_2 => k_is)
    (case l1040 => k_is)
    (case c1040 => k_is)
    (case k1040 => k_is)
    (case xL_3 => k_is)
    (case rv_3 => decide +kernel)
    (case sa_3 => k_is)
    (case ga_3 => k_is)
    (case gg_3 => k_is)
    (case no_3 => k_is)
    (case iC_3 => k_is)
    (case tI_3 => k_is)
    (case kC_3 => k_is)
    (case eC_3 => k_is)
    (case tC_3 => k_is)
    (case hC_3 => k_is)
    (case isC_3 => k_is)
    (case isa_3 => k_is)
    (case isn_3 => k_is)
    (case ist_3 => k_is)
    (case ism_3 => k_is)
    (case l1060 => k_is)
    (case c1060 => k_is)
    (case k1060 => k_is)
    (case sb_2_1 => first | rfl | k_is)
    (case ki_2_1 => first | kit_is | k_is)
    (case eC_1 => k_is)
    (case tC_1 => k_is)
    (case hC_1 => k_is)
    (case sb_2_2 => first | rfl | k_is)
    (case ki_2_2 => first | kit_is | k_is)
    (case sb_2_3 => first | rfl | k_is)
    (case ki_2_3 => first | kit_is | k_is)
    (case kv_2 => first | kit_is | k_is)
    (case rd_1 => k_is)
    (case sg_1 => k_is)
    (case it_1 => k_is)
    (case sb_3_1 => first | rfl | k_is)
    (case ki_3_1 => first | kit_is | k_is)
    (case sb_3_2 => first | rfl | k_is)
    (case ki_3_2 => first | kit_is | k_is)
    (case sb_3_3 => first | rfl | k_is)
    (case ki_3_3 => first | kit_is | k_is)
    (case kv_3 => first | kit_is | k_is)
    (case a11 => k_is)
    (case pg11 => k_is)
    (case hd11 => k_is)
    (case po11 => k_is)
    (case os11 => k_is)
    (case rd11 => k_is)
    (case og11 => k_is)
    (case sf11 => k_is)
    (case n11_word => k_is)
    (case n11_name => k_is)
    (case n11_shown => k_is)
    (case n11_hidden => k_is)
    (case n11_constraints => k_is)
    (case mk11 => k_is)
    (case kp11 => k_is)
    (case at1220 => k_is)
    (case fn1220 => k_is)
    (case l1220 => k_is)
    (case c1220 => k_is)
    (case k1220 => k_is)
    (case at1221 => k_is)
    (case rc1221 => k_is)
    (case fi1221 => k_is)
    (case l1221 => k_is)
    (case c1221 => k_is)
    (case k1221 => k_is)
    (case at1222 => k_is)
    (case ge1222 => k_is)
    (case ta1222 => k_is)
    (case rc1222 => k_is)
    (case l1222 => k_is)
    (case c1222 => k_is)
    (case k1222 => k_is)
    (case at1223 => k_is)
    (case ge1223 => k_is)
    (case ta1223 => k_is)
    (case rc1223 => k_is)
    (case l1223 => k_is)
    (case c1223 => k_is)
    (case k1223 => k_is)
    (case at1224 => k_is)
    (case fn1224 => k_is)
    (case l1224 => k_is)
    (case c1224 => k_is)
    (case k1224 => k_is)
    (case at1225 => k_is)
    (case fn1225 => k_is)
    (case l1225 => k_is)
    (case c1225 => k_is)
    (case k1225 => k_is)
    (case at1226 => k_is)
    (case fn1226 => k_is)
    (case l1226 => k_is)
    (case c1226 => k_is)
    (case k1226 => k_is)
    (case at1227 => k_is)
    (case fn1227 => k_is)
    (case l1227 => k_is)
    (case c1227 => k_is)
    (case k1227 => k_is)
    (case at1228 => k_is)
    (case fn1228 => k_is)
    (case l1228 => k_is)
    (case c1228 => k_is)
    (case k1228 => k_is)
    (case at1229 => k_is)
    (case fn1229 => k_is)
    (case l1229 => k_is)
    (case c1229 => k_is)
    (case k1229 => k_is)
    (case at1230 => k_is)
    (case fn1230 => k_is)
    (case l1230 => k_is)
    (case c1230 => k_is)
    (case k1230 => k_is)
    (case b1_11_Sub_str => k_is)
    (case b2_11_Sub_str => k_is)
    (case b3_11_Sub_str => k_is)
    (case b4_11_Sub_str => k_is)
    (case a7 => k_is)
    (case l7 => k_is)
    (case c7 => k_is)
    (case k7 => k_is)
    (case a8 => k_is)
    (case l8 => k_is)
    (case c8 => k_is)
    (case k8 => k_is)
    (case a9 => k_is)
    (case l9 => k_is)
    (case c9 => k_is)
    (case k9 => k_is)
    (case a13 => k_is)
    (case l13 => k_is)
    (case c13 => k_is)
    (case k13 => k_is)
    (case a14 => k_is)
    (case l14 => k_is)
    (case c14 => k_is)
    (case k14 => k_is)
    (case a15 => k_is)
    (case l15 => k_is)
    (case c15 => k_is)
    (case k15 => k_is)
    (case a16 => k_is)
    (case l16 => k_is)
    (case c16 => k_is)
    (case k16 => k_is)
    (case a17 => k_is)
    (case l17 => k_is)
    (case c17 => k_is)
    (case k17 => k_is)
    (case a18 => k_is)
    (case l18 => k_is)
    (case c18 => k_is)
    (case k18 => k_is)
    (case a19 => k_is)
    (case l19 => k_is)
    (case c19 => k_is)
    (case k19 => k_is)
    (case a20 => k_is)
    (case l20 => k_is)
    (case c20 => k_is)
    (case k20 => k_is)
    (case a21 => k_is)
    (case l21 => k_is)
    (case c21 => k_is)
    (case k21 => k_is)
    (case a22 => k_is)
    (case l22 => k_is)
    (case c22 => k_is)
    (case k22 => k_is)
    (case a23 => k_is)
    (case l23 => k_is)
    (case c23 => k_is)
    (case k23 => k_is)
    (case a24 => k_is)
    (case l24 => k_is)
    (case c24 => k_is)
    (case k24 => k_is)
    (case a25 => k_is)
    (case l25 => k_is)
    (case c25 => k_is)
    (case k25 => k_is)
    (case a26 => k_is)
    (case l26 => k_is)
    (case c26 => k_is)
    (case k26 => k_is)
    (case z_len => k_is)
    (case z_int => k_is)
    (case z_list => k_is)
    (case z_tuple => k_is)
    (case z_range => k_is)
    (case z_sorted => k_is)
    (case z_isinstance => k_is)
    (case z_iter => k_is)
    (case z_ValueError => k_is)
    (case x_LETTERS => k_is)
    (case x_DIGITS => k_is)
