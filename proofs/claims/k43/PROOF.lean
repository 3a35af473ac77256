import PyProof.Rows.All
import Wide.All
import OpenK.AllK
import Wide.FinOn
import HandS.ForMost
import HandS.Walk
import HandS.IsInst
import HandS.Wide
import HandS.Gcd
import HandS.Star
import HandS.Flow
import HandS.EndBits
import HandS.Conv
import HandS.Deep
import HandS.TupAny
import HandS.Codes
import KE.SortData
import KE.SortKeyHeap
import KE.DataCmp
import KE.DataEq
import HandS.Style
import HandS.ExcInit
import HandS.ClsMeth
import HandS.ExcField
import HandS.ExcIs
import HandS.Defaults
import HandS.Iter
import HandS.FStr
import HandS.Text
import HandS.StrMore
import KE.IntTextLaws
import HandS.MakeKwOnly
import HandS.CallSlots
import HandS.WordsExc
import HandS.ExcOwn
import HandS.TryOnly
import KE.KExcIs
import HandS.Zip0
import HandS.Zip
import KE.KDictZip
import HandS.TupMul
import HandS.Words
import HandS.HotCalls
import PySem.Challenge.RW_shadowlinks_k43_bridges_as_written
set_option Elab.async false
set_option linter.all false
set_option maxRecDepth 100000
set_option maxHeartbeats 4000000
namespace Sl
open PySem PySem.Spec PyProof.Rows L2

/-- a tuple, as it stands or held -/
def isTup : HO → Bool
  | .tup _ => true
  | .frz _ (.tup _) => true
  | _ => false
/-- a new address -/
structure Fr (H : Hp) (p : Addr) : Prop where
  eq : H p = none
/-- all stands but what is at A (tuples stand anyway) -/
def Kp (A : List Addr) (H H' : Hp) : Prop := ∀ a o, H a = some o → (a ∉ A ∨ isTup o = true) → H' a = some o
section
variable {A B : List Addr} {H H' H1 H2 : Hp} {p q a : Addr} {o o' u : HO}
theorem Kp.refl : Kp A H H := fun _ _ h _ => h
theorem Kp.trans (x : Kp A H H1) (y : Kp A H1 H2) : Kp A H H2 := fun a o h k => y a o (x a o h k) k
theorem Kp.sub (x : Kp A H H') (h : ∀ a ∈ A, a ∈ B) : Kp B H H' := fun a o e k => x a o e (k.imp (fun n m => n (h a m)) id)
theorem Kp.nil (x : Kp [] H H') : Kp B H H' := x.sub fun _ h => nomatch h
theorem Kp.of_same (x : Same H H') : Kp A H H' := fun a o h _ => x a o h
theorem Kp.same (x : Kp [] H H') : Same H H' := fun a o h => x a o h (.inl (by simp))
theorem Kp.new (h : H p = none) : Kp A H (upd H p o) := fun a u e _ => by
  rw [upd_ne (ne_of_none e h)]; exact e
theorem Kp.own (h : H p = some o) (t : isTup o = false) (m : p ∈ A) : Kp A H (upd H p o') := fun a u e k => by
  by_cases z : a = p
  · subst z
    rw [h] at e
    cases e
    rcases k with k | k
    · exact absurd m k
    · rw [t] at k; cases k
  · rw [upd_ne z]; exact e
/-- a new one, then changed: nothing that stood is touched -/
theorem Kp.back (h : H p = none) (x : Kp (p :: A) H H') : Kp A H H' := fun a o e k => x a o e (k.imp (fun n => by
  simp only [List.mem_cons, not_or]
  exact ⟨ne_of_none e h, n⟩) id)
/-- a change at what was new -/
theorem Kp.put (x : Kp A H H1) (h : H p = none) : Kp A H (upd H1 p o) := fun a u e k => by
  rw [upd_ne (ne_of_none e h)]; exact x a u e k
theorem Kp.none (x : Kp A H H') (n : a ∉ A) (h : H' a = none) : H a = none := by
  cases e : H a with
  | none => rfl
  | some o => have := x _ _ e (.inl n); rw [h] at this; cases this
theorem Kp.get (x : Kp A H H') (h : H a = some o) (k : a ∉ A ∨ isTup o = true) : H' a = some o := x a o h k
theorem Kp.rd (x : Kp A H H') (h : Rd H a o) (n : a ∉ A) : Rd H' a o := by
  rcases h with h | ⟨z, h⟩
  · exact .inl (x _ _ h (.inl n))
  · exact .inr ⟨z, x _ _ h (.inl n)⟩
theorem Kp.sqT {K : PySem.W.Frag} {xs : List V} (x : Kp A H H') (h : SqT K H a xs) : SqT K H' a xs := by
  rcases h with (h | ⟨z, h⟩) | h
  · exact .inl (.inl (x _ _ h (.inr rfl)))
  · exact .inl (.inr ⟨z, x _ _ h (.inr rfl)⟩)
  · exact .inr h
theorem Kp.sqL {K : PySem.W.Frag} {xs : List V} (x : Kp A H H') (n : a ∉ A) (h : SqL K H a xs) : SqL K H' a xs := by
  rcases h with h | h
  · exact .inl (x.rd h n)
  · exact .inr h
theorem Fr.ne (f : Fr H q) (h : H p = some o) : p ≠ q := ne_of_none h f.eq
theorem ne_kind (h : H p = some o) (h' : H q = some u) (d : o ≠ u) : p ≠ q := ne_of h h' d
end

/-! ### data that stands -/
section
variable (A : List Addr) (K : PySem.W.Frag) (H : Hp)
mutual
inductive Dv : V → PyData → Prop
  | non : Dv .non .none
  | bl (b : Bool) : Dv (.bl b) (.bool b)
  | int (i : Int) : Dv (.int i) (.int i)
  | str (x : Str) : Dv (.str x) (.str x)
  | lst {a : Addr} {xs : List V} {ds : List PyData} : Rd H a (.lst xs) → a ∉ A → DvAll xs ds → Dv (.ref a) (.list ds)
  | tup {a : Addr} {xs : List V} {ds : List PyData} : SqT K H a xs → DvAll xs ds → Dv (.ref a) (.tuple ds)
inductive DvAll : List V → List PyData → Prop
  | nil : DvAll [] []
  | cons {v : V} {vs : List V} {d : PyData} {ds : List PyData} : Dv v d → DvAll vs ds → DvAll (v :: vs) (d :: ds)
end
end
section
variable {A B : List Addr} {K : PySem.W.Frag} {H H' : Hp} {p q a : Addr} {o o' u : HO} {v : V} {d : PyData}
mutual
theorem Dv.kp (k : Kp A H H') : ∀ {v : V} {d : PyData}, Dv A K H v d → Dv A K H' v d
  | _, _, .non => .non
  | _, _, .bl b => .bl b
  | _, _, .int i => .int i
  | _, _, .str x => .str x
  | _, _, .lst h n t => .lst (k.rd h n) n (DvAll.kp k t)
  | _, _, .tup h t => .tup (k.sqT h) (DvAll.kp k t)
theorem DvAll.kp (k : Kp A H H') : ∀ {vs : List V} {ds : List PyData}, DvAll A K H vs ds → DvAll A K H' vs ds
  | _, _, .nil => .nil
  | _, _, .cons h t => .cons (Dv.kp k h) (DvAll.kp k t)
end
mutual
theorem Dv.sub (k : ∀ a ∈ B, a ∈ A) : ∀ {v : V} {d : PyData}, Dv A K H v d → Dv B K H v d
  | _, _, .non => .non
  | _, _, .bl b => .bl b
  | _, _, .int i => .int i
  | _, _, .str x => .str x
  | _, _, .lst h n t => .lst h (fun m => n (k _ m)) (DvAll.sub k t)
  | _, _, .tup h t => .tup h (DvAll.sub k t)
theorem DvAll.sub (k : ∀ a ∈ B, a ∈ A) : ∀ {vs : List V} {ds : List PyData}, DvAll A K H vs ds → DvAll B K H vs ds
  | _, _, .nil => .nil
  | _, _, .cons h t => .cons (Dv.sub k h) (DvAll.sub k t)
end
theorem rd_ne (h : H p = none) (r : Rd H a o) : a ≠ p := by
  rcases r with r | ⟨z, r⟩
  · exact ne_of_none r h
  · exact ne_of_none r h
mutual
/-- a new address is none of the data's -/
theorem Dv.more (h : H p = none) : ∀ {v : V} {d : PyData}, Dv A K H v d → Dv (p :: A) K H v d
  | _, _, .non => .non
  | _, _, .bl b => .bl b
  | _, _, .int i => .int i
  | _, _, .str x => .str x
  | _, _, .lst r n t => .lst r (by simp only [List.mem_cons, not_or]; exact ⟨rd_ne h r, n⟩) (DvAll.more h t)
  | _, _, .tup r t => .tup r (DvAll.more h t)
theorem DvAll.more (h : H p = none) : ∀ {vs : List V} {ds : List PyData}, DvAll A K H vs ds → DvAll (p :: A) K H vs ds
  | _, _, .nil => .nil
  | _, _, .cons r t => .cons (Dv.more h r) (DvAll.more h t)
end
mutual
def flatT : PyData → Bool
  | .list _ => false
  | .dict _ => false
  | .tuple ds => flatTs ds
  | _ => true
def flatTs : List PyData → Bool
  | [] => true
  | d :: ds => flatT d && flatTs ds
end
mutual
theorem Dv.any : ∀ {v : V} {d : PyData}, flatT d = true → Dv A K H v d → Dv B K H v d
  | _, _, _, .non => .non
  | _, _, _, .bl b => .bl b
  | _, _, _, .int i => .int i
  | _, _, _, .str x => .str x
  | _, _, e, .lst r n t => by simp [flatT] at e
  | _, _, e, .tup r t => .tup r (DvAll.any (by simpa [flatT] using e) t)
theorem DvAll.any : ∀ {vs : List V} {ds : List PyData}, flatTs ds = true → DvAll A K H vs ds → DvAll B K H vs ds
  | _, _, _, .nil => .nil
  | _, _, e, .cons r t => by
    simp only [flatTs, Bool.and_eq_true] at e
    exact .cons (Dv.any e.1 r) (DvAll.any e.2 t)
end
theorem flatTs_map {α : Type} {f : α → PyData} (h : ∀ x, flatT (f x) = true) : ∀ xs : List α, flatTs (xs.map f) = true
  | [] => rfl
  | x :: xs => by rw [List.map_cons, flatTs, h x, flatTs_map h xs]; rfl
mutual
theorem Dv.dp : ∀ {v : V} {d : PyData}, Dv A K H v d → Dp K H v d
  | _, _, .non => .non
  | _, _, .bl b => .bl b
  | _, _, .int i => .int i
  | _, _, .str x => .str x
  | _, _, .lst h n t => .lst (.inl h) (DvAll.dp t)
  | _, _, .tup h t => .tup h (DvAll.dp t)
theorem DvAll.dp : ∀ {vs : List V} {ds : List PyData}, DvAll A K H vs ds → DpAll K H vs ds
  | _, _, .nil => .nil
  | _, _, .cons h t => .cons (Dv.dp h) (DvAll.dp t)
end
theorem DvAll.length : ∀ {vs : List V} {ds : List PyData}, DvAll A K H vs ds → vs.length = ds.length
  | _, _, .nil => rfl
  | _, _, .cons _ t => congrArg Nat.succ (DvAll.length t)
theorem DvAll.at : ∀ {vs : List V} {ds : List PyData} {i : Nat} {v : V}, DvAll A K H vs ds → vs[i]? = some v → ∃ d, ds[i]? = some d ∧ Dv A K H v d
  | _, _, i, v, .nil, h => by simp at h
  | _, _, 0, v, .cons h _, e => by cases e; exact ⟨_, rfl, h⟩
  | _, _, i + 1, v, .cons _ t, e => DvAll.at (i := i) t e
theorem DvAll.at' : ∀ {vs : List V} {ds : List PyData} {i : Nat} {d : PyData}, DvAll A K H vs ds → ds[i]? = some d → ∃ v, vs[i]? = some v ∧ Dv A K H v d
  | _, _, i, v, .nil, h => by simp at h
  | _, _, 0, v, .cons h _, e => by cases e; exact ⟨_, rfl, h⟩
  | _, _, i + 1, v, .cons _ t, e => DvAll.at' (i := i) t e
theorem DvAll.app : ∀ {vs ws : List V} {ds es : List PyData}, DvAll A K H vs ds → DvAll A K H ws es → DvAll A K H (vs ++ ws) (ds ++ es)
  | _, _, _, _, .nil, h => h
  | _, _, _, _, .cons h t, r => .cons h (DvAll.app t r)
theorem DvAll.one (h : Dv A K H v d) : DvAll A K H [v] [d] := .cons h .nil
theorem DvAll.snoc {vs : List V} {ds : List PyData} (t : DvAll A K H vs ds) (h : Dv A K H v d) : DvAll A K H (vs ++ [v]) (ds ++ [d]) := t.app (.one h)
theorem DvAll.strs : ∀ {vs : List V} {ss : List Str}, DvAll A K H vs (ss.map .str) → vs = ss.map V.str
  | _, [], .nil => rfl
  | _, s :: ss, .cons h t => by
    cases h
    rw [List.map_cons, DvAll.strs t]
theorem DvAll.ints : ∀ {vs : List V} {ss : List Int}, DvAll A K H vs (ss.map .int) → vs = ss.map V.int
  | _, [], .nil => rfl
  | _, s :: ss, .cons h t => by
    cases h
    rw [List.map_cons, DvAll.ints t]
theorem dv_strs : ∀ (ss : List Str), DvAll A K H (ss.map V.str) (ss.map .str)
  | [] => .nil
  | s :: ss => .cons (.str s) (dv_strs ss)
theorem dv_ints : ∀ (ss : List Int), DvAll A K H (ss.map V.int) (ss.map .int)
  | [] => .nil
  | s :: ss => .cons (.int s) (dv_ints ss)
theorem Dv.tup_inv {ds : List PyData} (h : Dv A K H v (.tuple ds)) : ∃ a xs, v = .ref a ∧ SqT K H a xs ∧ DvAll A K H xs ds := by
  cases h with
  | tup r t => exact ⟨_, _, rfl, r, t⟩
theorem Dv.lst_inv {ds : List PyData} (h : Dv A K H v (.list ds)) : ∃ a xs, v = .ref a ∧ Rd H a (.lst xs) ∧ a ∉ A ∧ DvAll A K H xs ds := by
  cases h with
  | lst r n t => exact ⟨_, _, rfl, r, n, t⟩
theorem Dv.str_inv {s : Str} (h : Dv A K H v (.str s)) : v = .str s := by cases h; rfl
theorem Dv.int_inv {s : Int} (h : Dv A K H v (.int s)) : v = .int s := by cases h; rfl
theorem Dv.bl_inv {s : Bool} (h : Dv A K H v (.bool s)) : v = .bl s := by cases h; rfl
theorem Dv.non_inv (h : Dv A K H v .none) : v = .non := by cases h; rfl
end

theorem rvRef (a : Addr) : RelV (.ref a) (.ref a) := rfl
theorem rvInt (i : Int) (t : Tok) : RelV (.int i) (.int i t) := ⟨t, rfl⟩
theorem rvStr (x : Str) (t : Tok) : RelV (.str x) (.str x t) := ⟨t, rfl⟩
theorem rvBl (b : Bool) : RelV (.bl b) (.bool b) := rfl
theorem rvNon : RelV .non .none := rfl
theorem sz {n : Nat} (h : n ≤ 100000) : n ≤ sizeLine := Nat.le_trans h (by decide)
theorem szl {n : Nat} (h : n < 100000) : n < sizeLine := Nat.lt_of_lt_of_le h (by decide)
/-! ### the source of draws -/
def Src (H : Hp) (a : Addr) : Prop := ∃ n c : Int, H a = some (.lst [.int n, .int c])
theorem Src.kp {A : List Addr} {H H' : Hp} {a : Addr} (k : Kp A H H') (n : a ∉ A) (h : Src H a) : Src H' a := by
  obtain ⟨x, y, e⟩ := h
  exact ⟨x, y, k _ _ e (.inl n)⟩
end Sl
namespace Sl
open PySem PySem.Spec PyProof.Rows L2
section
variable {X : Cx} {CX : CXT} {k : Nat} {f : Addr} {sp : Sp} {E : XK} {x : Str} {e : Expr} {es : List Expr} {t : TA} {p pos : Pos}
/-- f(e, ..), f of any binding, by a positional promise -/
theorem pe_callF (F : FnR X.prog X.w X.K X.mg X.base CX k f sp) (hr : Room k X.A) (hk : PySem.W.keepIn X.K (.ref f) = true) (hg : Gl X x) (hm : X.mg x = some (.ref f)) (hx : Passes CX X E) (ha : PA X (e :: es) t) (hdb : (x == ("__debug__" : Str)) = false := by decide)
    (he : starEach (e :: es) X.env = (false, eval e X.env) :: starEach es X.env := by rfl) (hpl : (backTo pos (starEach es X.env)).any (·.1) = false := by rfl) :
    PE X (.Call (.Name x p) (e :: es) [] pos) (fun σ H Q => t σ H fun vs H1 => sp vs H1 Q E) := by
  refine ⟨fun pins s σ H Q I h => ?_⟩
  refine wpAny_Call_Name_kw (ld_glob I hg hm ?_ hdb)
  refine PySem.W.callWith_K (h₀ := X.base) I.ok.mod.kin hk (thn (ha.run pos pins s σ H _ I h) fun us s1 ⟨vs, H1, I1, r, q⟩ => ⟨I1.kIn, ?_⟩) he hpl
  exact wpAny_call (run_fnR F hr hx I1 r q)
/-- f(), f of any binding -/
theorem pe_callF0 (F : FnR X.prog X.w X.K X.mg X.base CX k f sp) (hr : Room k X.A) (hg : Gl X x) (hm : X.mg x = some (.ref f)) (hk : PySem.W.keepIn X.K (.ref f) = true) (hx : Passes CX X E)
    (hdb : (x == ("__debug__" : Str)) = false := by decide) : PE X (.Call (.Name x p) [] [] pos) (fun _ H Q => sp [] H Q E) := by
  refine ⟨fun pins s σ H Q I h => ?_⟩
  refine wpAny_Call_Name_kw (ld_glob I hg hm ?_ hdb)
  exact PySem.W.callWith_K0 I.kIn hk (wpAny_call (run_fnR F hr hx I .nil h))
/-- def f(.., *v): n written, the rest a new tuple -/
def star (n : Nat) (sp : Sp) : Sp := fun vs H Q E => ∃ ws rest, vs = ws ++ rest ∧ ws.length = n ∧ rest.length ≤ sizeLine ∧ ∀ p, H p = Option.none → sp (ws ++ [V.ref p]) (upd H p (.tup rest)) Q E
end
end Sl
namespace Sl
open PySem PySem.Spec PyProof.Rows L2
/-! ### two readings of one term -/
section
variable {X : Cx}
theorem pi_or {tg e : Expr} {w1 w2 : TI} (h1 : PI X tg e w1) (h2 : PI X tg e w2) : PI X tg e (fun σ H R => w1 σ H R ∨ w2 σ H R) :=
  ⟨fun pins s σ H R I h => h.elim (h1.run pins s σ H R I) (h2.run pins s σ H R I)⟩
theorem pe_or2 {e : Expr} {t1 t2 : TE} (h1 : PE X e t1) (h2 : PE X e t2) : PE X e (fun σ H Q => t1 σ H Q ∨ t2 σ H Q) :=
  ⟨fun pins s σ H R I h => h.elim (h1.run pins s σ H R I) (h2.run pins s σ H R I)⟩
theorem pt_or2 {e : Expr} {t1 t2 : TT} (h1 : PT X e t1) (h2 : PT X e t2) : PT X e (fun σ H Q => t1 σ H Q ∨ t2 σ H Q) :=
  ⟨fun pins s σ H R I h => h.elim (h1.run pins s σ H R I) (h2.run pins s σ H R I)⟩
theorem op_or2 {f : Value → Value → Sem Value} {r1 r2 : R2} (h1 : OpR X f r1) (h2 : OpR X f r2) : OpR X f (fun x y H Q => r1 x y H Q ∨ r2 x y H Q) :=
  fun pins s σ H x y v u Q I rx ry h => h.elim (h1 pins s σ H x y v u Q I rx ry) (h2 pins s σ H x y v u Q I rx ry)
theorem cr_or2 {f : Value} {r1 r2 : List V → Hp → VK → Prop} (h1 : CallR X f r1) (h2 : CallR X f r2) : CallR X f (fun xs H Q => r1 xs H Q ∨ r2 xs H Q) :=
  fun pins s σ H xs us Q I r h => h.elim (h1 pins s σ H xs us Q I r) (h2 pins s σ H xs us Q I r)
end
theorem nox_ex {X : Cx} {b : List Stmt} {R : TS → Prop} (h : ∃ t, PSs X.nox b t ∧ R t) : ∃ t, PSs X b t ∧ R t := by
  obtain ⟨t, h1, h2⟩ := h
  exact ⟨t, h1.nox, h2⟩
/-! ### texts in ascending order -/
def slt (a b : Str) : Prop := TL.tl a < TL.tl b
instance (a b : Str) : Decidable (slt a b) := inferInstanceAs (Decidable (TL.tl a < TL.tl b))
theorem ltCps_iff : ∀ a b : List Nat, ltCps a b = true ↔ a < b
  | [], [] => by simp [ltCps]
  | [], b :: bs => by simp [ltCps]
  | a :: as, [] => by simp [ltCps]
  | a :: as, b :: bs => by
    have ih := ltCps_iff as bs
    simp only [ltCps, List.cons_lt_cons_iff, Bool.or_eq_true, Bool.and_eq_true, decide_eq_true_eq, beq_iff_eq, ih]
theorem slt_trans {a b c : Str} (h : slt a b) (h' : slt b c) : slt a c := List.lt_trans h h'
theorem slt_irrefl (a : Str) : ¬ slt a a := List.lt_irrefl _
theorem slt_tri (a b : Str) : slt a b ∨ a = b ∨ slt b a := by
  by_cases h : slt a b
  · exact .inl h
  · by_cases h' : slt b a
    · exact .inr (.inr h')
    · exact .inr (.inl (TL.ext_tl (List.le_antisymm (List.not_lt.mp h') (List.not_lt.mp h))))
theorem slt_asymm {a b : Str} (h : slt a b) : ¬ slt b a := fun h' => slt_irrefl _ (slt_trans h h')
/-- strictly ascending -/
def Asc (l : List Str) : Prop := l.Pairwise slt
theorem rising_pw : ∀ (p : Str) (l : List Str), risingS p l = true → (p :: l).Pairwise (fun a b => ¬ slt b a)
  | p, [], _ => List.pairwise_singleton _ _
  | p, x :: r, h => by
    simp only [risingS, Bool.and_eq_true, Bool.not_eq_true'] at h
    have ih := rising_pw x r h.2
    have hpx : ¬ slt x p := fun z => by rw [(ltCps_iff _ _).mpr z] at h; exact Bool.noConfusion h.1
    refine List.pairwise_cons.mpr ⟨fun y hy => ?_, ih⟩
    rcases List.mem_cons.mp hy with e | e
    · subst e; exact hpx
    · intro z
      have hxy := (List.pairwise_cons.mp ih).1 y e
      rcases slt_tri x y with q | q | q
      · exact hpx (slt_trans q z)
      · subst q; exact hpx z
      · exact hxy q
theorem asc_of_sorted {l : List Str} (h : sortedS l = true) (nd : l.Nodup) : Asc l := by
  cases l with
  | nil => exact List.Pairwise.nil
  | cons x r =>
    have hp := rising_pw x r h
    refine List.Pairwise.imp₂ (fun a b h1 h2 => ?_) hp nd
    rcases slt_tri a b with q | q | q
    · exact q
    · exact absurd q h2
    · exact absurd q h1
theorem Asc.nodup {l : List Str} (h : Asc l) : l.Nodup := h.imp fun q e => by subst e; exact slt_irrefl _ q
/-- ascending lists with the same members are one -/
theorem Asc.ext : ∀ {l m : List Str}, Asc l → Asc m → (∀ x, x ∈ l ↔ x ∈ m) → l = m
  | [], [], _, _, _ => rfl
  | [], y :: m, _, _, h => absurd ((h y).mpr (List.mem_cons_self ..)) List.not_mem_nil
  | x :: l, [], _, _, h => absurd ((h x).mp (List.mem_cons_self ..)) List.not_mem_nil
  | x :: l, y :: m, hl, hm, h => by
    have h1 := List.pairwise_cons.mp hl
    have h2 := List.pairwise_cons.mp hm
    have e : x = y := by
      rcases List.mem_cons.mp ((h x).mp (List.mem_cons_self ..)) with e | e
      · exact e
      · rcases List.mem_cons.mp ((h y).mpr (List.mem_cons_self ..)) with e' | e'
        · exact e'.symm
        · exact absurd (slt_trans (h2.1 x e) (h1.1 y e')) (slt_irrefl _)
    subst e
    rw [Asc.ext h1.2 h2.2 fun z => ?_]
    constructor
    · intro hz
      rcases List.mem_cons.mp ((h z).mp (List.mem_cons_of_mem _ hz)) with e | e
      · subst e; exact absurd (h1.1 _ hz) (slt_irrefl _)
      · exact e
    · intro hz
      rcases List.mem_cons.mp ((h z).mpr (List.mem_cons_of_mem _ hz)) with e | e
      · subst e; exact absurd (h2.1 _ hz) (slt_irrefl _)
      · exact e
/-- a list or a tuple -/
def Sq (K : PySem.W.Frag) (H : Hp) (a : Addr) (xs : List V) : Prop := SqL K H a xs ∨ SqT K H a xs
/-- one for each -/
def All2 {α β : Type} (R : α → β → Prop) : List α → List β → Prop
  | [], [] => True
  | x :: xs, y :: ys => R x y ∧ All2 R xs ys
  | _, _ => False
theorem All2.at {α β : Type} {R : α → β → Prop} : ∀ {xs : List α} {ys : List β} {i : Nat} {x : α}, All2 R xs ys → xs[i]? = some x → ∃ y, ys[i]? = some y ∧ R x y
  | [], _, _, _, _, e => by simp at e
  | x :: xs, [], _, _, h, _ => False.elim h
  | x :: xs, y :: ys, 0, _, h, e => by cases e; exact ⟨y, rfl, h.1⟩
  | x :: xs, y :: ys, i + 1, _, h, e => All2.at (i := i) h.2 e
theorem All2.length {α β : Type} {R : α → β → Prop} : ∀ {xs : List α} {ys : List β}, All2 R xs ys → xs.length = ys.length
  | [], [], _ => rfl
  | [], _ :: _, h => False.elim h
  | _ :: _, [], h => False.elim h
  | x :: xs, y :: ys, h => congrArg Nat.succ (All2.length h.2)
theorem All2.imp {α β : Type} {R S : α → β → Prop} (k : ∀ x y, R x y → S x y) : ∀ {xs : List α} {ys : List β}, All2 R xs ys → All2 S xs ys
  | [], [], _ => trivial
  | [], _ :: _, h => False.elim h
  | _ :: _, [], h => False.elim h
  | x :: xs, y :: ys, h => ⟨k _ _ h.1, All2.imp k h.2⟩
theorem All2.snoc {α β : Type} {R : α → β → Prop} : ∀ {xs : List α} {ys : List β} {x : α} {y : β}, All2 R xs ys → R x y → All2 R (xs ++ [x]) (ys ++ [y])
  | [], [], _, _, _, h => ⟨h, trivial⟩
  | [], _ :: _, _, _, h, _ => False.elim h
  | _ :: _, [], _, _, h, _ => False.elim h
  | x :: xs, y :: ys, _, _, h, k => ⟨h.1, All2.snoc h.2 k⟩
end Sl
namespace Sl
open PySem PySem.Spec PyProof.Rows L2
/-! ### tests whose answer is told -/
/-- the answer is b, the heap stands -/
def An (t : TT) (σ : L2.St) (H : Hp) (b : Bool) : Prop := ∀ Q : Bool → Hp → Prop, Q b H → t σ H Q
/-- the value is v, the heap stands -/
def Vl (t : TE) (σ : L2.St) (H : Hp) (v : V) : Prop := ∀ Q : VK, Q v H → t σ H Q
section
variable {σ : L2.St} {H : Hp} {t u c : TT} {a b : Bool} {ta tb : TE} {x y z v : V} {D : Ends} {t1 t2 s2 : TS}
theorem an_and (h1 : An t σ H a) (h2 : a = true → An u σ H b) : An (tAnd t u) σ H (a && b) := fun Q q => by
  refine h1 _ ?_
  cases a with
  | true => exact h2 rfl Q q
  | false => exact q
theorem an_or (h1 : An t σ H a) (h2 : a = false → An u σ H b) : An (tOr t u) σ H (a || b) := fun Q q => by
  refine h1 _ ?_
  cases a with
  | true => exact q
  | false => exact h2 rfl Q q
theorem an_not (h1 : An t σ H a) : An (tNot t) σ H (!a) := fun Q q => h1 _ q
theorem an_cmp {r : R2} (h1 : Vl ta σ H x) (h2 : Vl tb σ H y) (hr : ∀ Q : VK, Q (.bl b) H → r x y H Q) : An (tTest (tOp r ta tb)) σ H b := fun Q q => h1 _ (h2 _ (hr _ ⟨b, rfl, q⟩))
theorem an_val (h1 : Vl ta σ H (.bl b)) : An (tB ta) σ H b := fun Q q => h1 _ ⟨b, rfl, q⟩
theorem an_test (h1 : Vl ta σ H (.bl b)) : An (tTest ta) σ H b := fun Q q => h1 _ ⟨b, rfl, q⟩
theorem vl_var {i : Nat} (h : σ[i]? = some (some v)) : Vl (tVar i) σ H v := fun Q q => ⟨v, h, q⟩
theorem vl_c : Vl (tC v) σ H v := fun Q q => q
theorem vl_op {r : R2} (h1 : Vl ta σ H x) (h2 : Vl tb σ H y) (hr : ∀ Q : VK, Q z H → r x y H Q) : Vl (tOp r ta tb) σ H z := fun Q q => h1 _ (h2 _ (hr _ q))
theorem vl_un {r : V → Hp → VK → Prop} (h1 : Vl ta σ H x) (hr : ∀ Q : VK, Q z H → r x H Q) : Vl (tUn r ta) σ H z := fun Q q => h1 _ (hr _ q)
theorem vl_cb1 {r : List V → Hp → VK → Prop} (h1 : Vl ta σ H x) (hr : ∀ Q : VK, Q z H → r [x] H Q) : Vl (tCB r (tCons ta tNil)) σ H z := fun Q q => h1 _ (hr _ q)
theorem vl_cb2 {r : List V → Hp → VK → Prop} (h1 : Vl ta σ H x) (h2 : Vl tb σ H y) (hr : ∀ Q : VK, Q z H → r [x, y] H Q) : Vl (tCB r (tCons ta (tCons tb tNil))) σ H z := fun Q q => h1 _ (h2 _ (hr _ q))
theorem vl_chain {r r' : R2} {tc : TE} {w : V} (h1 : Vl ta σ H x) (h2 : Vl tb σ H y) (h3 : a = true → Vl tc σ H w) (hr : ∀ Q : VK, Q (.bl a) H → r x y H Q) (hr' : a = true → ∀ Q : VK, Q (.bl b) H → r' y w H Q) : Vl (tChain r r' ta tb tc) σ H (.bl (a && b)) := fun Q q => by
  refine h1 _ (h2 _ (hr _ ⟨a, rfl, ?_⟩))
  cases a with
  | true => exact h3 rfl _ (hr' rfl _ q)
  | false => exact q
theorem vl_not (h1 : Vl ta σ H (.bl a)) : Vl (tNotV ta) σ H (.bl (!a)) := fun Q q => h1 _ ⟨a, rfl, q⟩
theorem vl_andV (h1 : Vl ta σ H (.bl a)) (h2 : a = true → Vl tb σ H (.bl b)) : Vl (tAndV ta tb) σ H (.bl (a && b)) := fun Q q => h1 _ ⟨a, rfl, by
  cases a with
  | true => exact h2 rfl _ q
  | false => exact q⟩
theorem vl_orV (h1 : Vl ta σ H (.bl a)) (h2 : a = false → Vl tb σ H (.bl b)) : Vl (tOrV ta tb) σ H (.bl (a || b)) := fun Q q => h1 _ ⟨a, rfl, by
  cases a with
  | true => exact q
  | false => exact h2 rfl _ q⟩
theorem if_an (h : An c σ H b) (k1 : b = true → t1 D σ H) (k2 : b = false → t2 D σ H) : tIfS c t1 t2 D σ H := by
  refine h _ ?_
  cases b with
  | true => exact k1 rfl
  | false => exact k2 rfl
theorem seq_if (h : An c σ H b) (k1 : b = true → t1 { D with nx := s2 D } σ H) (k2 : b = false → t2 { D with nx := s2 D } σ H) : tSeq (tIfS c t1 t2) s2 D σ H := if_an h k1 k2
theorem seq_if0 (h : An c σ H b) (k1 : b = true → t1 { D with nx := s2 D } σ H) (k2 : b = false → s2 D σ H) : tSeq (tIfS c t1 tNext) s2 D σ H := if_an h k1 k2
theorem seq_ifK0 (h : t σ H fun b H' => if b = true then t1 { D with nx := s2 D } σ H' else s2 D σ H') : tSeq (tIfS t t1 tNext) s2 D σ H := h
theorem seq_set {i : Nat} (h : Vl ta σ H v) (k : s2 D (σ.set i (some v)) H) : tSeq (tAsg ta (gName i)) s2 D σ H := h _ k
theorem seq_setK {i : Nat} (h : ta σ H fun v H' => s2 D (σ.set i (some v)) H') : tSeq (tAsg ta (gName i)) s2 D σ H := h
theorem setK {i : Nat} (h : ta σ H fun v H' => D.nx (σ.set i (some v)) H') : tAsg ta (gName i) D σ H := h
theorem seq_dropK (h : ta σ H fun _ H' => s2 D σ H') : tSeq (tDrop ta) s2 D σ H := h
theorem dropK' (h : ta σ H fun _ H' => D.nx σ H') : tDrop ta D σ H := h
theorem retK (h : ta σ H D.rt) : tRet ta D σ H := h
theorem if_anK (h : t σ H fun b H' => if b = true then t1 D σ H' else t2 D σ H') : tIfS t t1 t2 D σ H := h
theorem seq_ifK (h : t σ H fun b H' => if b = true then t1 { D with nx := s2 D } σ H' else t2 { D with nx := s2 D } σ H') : tSeq (tIfS t t1 t2) s2 D σ H := h
theorem seq_forK {wi : TI} {g : TG} {tb : TS} (h : tFor wi g tb { D with nx := s2 D } σ H) : tSeq (tFor wi g tb) s2 D σ H := h
theorem seq_whileK {c : TT} {tb : TS} (h : tWhile c tb { D with nx := s2 D } σ H) : tSeq (tWhile c tb) s2 D σ H := h
theorem seq_parK {i j : Nat} {ta : TA} (h : ta σ H fun vs H1 => ∃ v w, vs = [v, w] ∧ s2 D ((σ.set i (some v)).set j (some w)) H1) : tSeq (tPar i j ta) s2 D σ H := h
theorem parK {i j : Nat} {ta : TA} (h : ta σ H fun vs H1 => ∃ v w, vs = [v, w] ∧ D.nx ((σ.set i (some v)).set j (some w)) H1) : tPar i j ta D σ H := h
theorem gnK {i : Nat} {v : V} {Q : L2.St → Hp → Prop} (h : Q (σ.set i (some v)) H) : gName i v σ H Q := h
theorem yesK {Q : Bool → Hp → Prop} (h : Q true H) : tYes σ H Q := h
theorem nextK (h : D.nx σ H) : tNext D σ H := h
theorem ret_vl (h : Vl ta σ H v) (k : D.rt v H) : tRet ta D σ H := h _ k
theorem An.to (h : An t σ H a) (e : a = b) : An t σ H b := e ▸ h
theorem Vl.to (h : Vl ta σ H x) (e : x = y) : Vl ta σ H y := e ▸ h
end
/-- two ways that meet -/
theorem cutK {t u : TS} {D : Ends} {σ : L2.St} {H : Hp} (Mid : L2.St → Hp → Prop) (h1 : t { D with nx := Mid } σ H) (h2 : ∀ σ' H', Mid σ' H' → u D σ' H') : C8.tCut t u D σ H := ⟨Mid, h1, h2⟩
theorem an_use {c : TT} {σ : L2.St} {H : Hp} {b : Bool} {Q : Bool → Hp → Prop} (h : An c σ H b) (q : Q b H) : c σ H Q := h Q q
/-- a for and what stands behind it -/
theorem for_seq {J : It} {n : Nat} {G : Hp → Prop} {Y : Nat → Hp → V → Hp → Prop} (w : Walk J n G Y) {g : TG} {tb s2 : TS} {D : Ends} {σ : L2.St} {H : Hp} (Pv : Nat → L2.St → Hp → Prop) (h0 : Pv 0 σ H) (hG : ∀ i σ H, i ≤ n → Pv i σ H → G H)
    (hs : ∀ i x σ H H', i < n → Pv i σ H → Y i H x H' → g x σ H' fun σ2 H2 => tb { D with nx := Pv (i + 1), ct := Pv (i + 1), bk := s2 D } σ2 H2) (hd : ∀ σ H, Pv n σ H → s2 D σ H) :
    ∃ W : Nat → Nat → L2.St → Hp → Prop, (∃ m, W 0 m σ H) ∧ ∀ i m σ H, W i m σ H →
      (J.stop i H ∧ (Ends.mk (s2 D) D.rt D.bk D.ct).nx σ H) ∨ (J.go i H ∧ ∃ N : L2.St → Hp → Prop, (∀ σ' H', N σ' H' → ∃ m', m' < m ∧ W (i + 1) m' σ' H') ∧ ∀ x H', J.yld i H x H' → g x σ H' fun σ2 H2 => tb { (Ends.mk (s2 D) D.rt D.bk D.ct) with nx := N, ct := N, bk := (Ends.mk (s2 D) D.rt D.bk D.ct).nx } σ2 H2) :=
  for_it (D := Ends.mk (s2 D) D.rt D.bk D.ct) w Pv h0 hG hs hd
/-- one sign of a text -/
theorem sign_at {z : Str} {r : Int} (h0 : 0 ≤ r) (h1 : r < z.length) : ∃ c, atI z.cps.toList r = some c ∧ c ∈ TL.tl z := by
  obtain ⟨n, rfl⟩ := Int.eq_ofNat_of_zero_le h0
  have h : n < z.cps.toList.length := by
    have e : z.length = z.cps.toList.length := TL.len_tl z
    omega
  exact ⟨z.cps.toList[n], atI_nat (by simp), List.getElem_mem h⟩
end Sl
namespace Sl
open PySem PySem.Spec PyProof.Rows L2
/-! ### data of written depth -/
/-- all signs are signs -/
def okS (s : Str) : Prop := ∀ c ∈ TL.tl s, c < 1114112
theorem okS.ok {s : Str} (h : okS s) : PyData.canLay0 (.str s) = true := by
  show PyData.strOk s = true
  unfold PyData.strOk
  rw [Array.all_eq_true']
  intro c hc
  simpa using h c (Array.mem_toList_iff.mpr hc)
theorem lay_map {α : Type} {f : α → PyData} : ∀ {xs : List α}, (∀ x ∈ xs, (f x).canLay0 = true) → PyData.canLayAll0 (xs.map f) = true
  | [], _ => rfl
  | x :: xs, h => by
    rw [List.map_cons, PyData.canLayAll0, h x (List.mem_cons_self ..), lay_map fun y hy => h y (List.mem_cons_of_mem _ hy)]; rfl
theorem depth_map {α : Type} {f : α → PyData} {k : Nat} : ∀ {xs : List α}, (∀ x ∈ xs, (f x).depth ≤ k) → PyData.depthAll (xs.map f) ≤ k
  | [], _ => Nat.zero_le _
  | x :: xs, h => by
    rw [List.map_cons, PyData.depthAll]
    have h1 := h x (List.mem_cons_self ..)
    have h2 := depth_map (k := k) (xs := xs) fun y hy => h y (List.mem_cons_of_mem _ hy)
    omega
theorem shaped_of {d : PyData} (h : d.canLay0 = true) (h' : d.depth ≤ 64) : SeqAt.shaped d = true := by
  unfold SeqAt.shaped
  rw [h, decide_eq_true h']; rfl
theorem inV_strs {s : Str} : ∀ {ys : List Str}, inV (.str s) (ys.map V.str) = decide (s ∈ ys)
  | [] => rfl
  | y :: ys => by
    have ih := inV_strs (s := s) (ys := ys)
    unfold inV at ih ⊢
    rw [List.map_cons, List.any_cons, ih]
    show (y == s || decide (s ∈ ys)) = decide (s ∈ y :: ys)
    by_cases e : s = y
    · subst e; simp
    · have : (y == s) = false := by simp [Ne.symm e]
      rw [this]; simp [e]
theorem flat_strs (ys : List Str) : (ys.map V.str).all flatV = true := by
  rw [List.all_eq_true]
  intro v hv
  obtain ⟨s, _, rfl⟩ := List.mem_map.mp hv
  rfl
end Sl
namespace Sl
open PySem PySem.Spec PyProof.Rows L2
/-! ### rules by K alone (they go into a comprehension's block) -/
def rListOf (K : PySem.W.Frag) : List V → Hp → VK → Prop := fun xs H Q => ∃ p ys, xs = [.ref p] ∧ (SqL K H p ys ∨ SqT K H p ys) ∧ ∀ l, H l = none → Q (.ref l) (upd H l (.lst ys))
def rTupleOf (K : PySem.W.Frag) : List V → Hp → VK → Prop := fun xs H Q => ∃ p ys, xs = [.ref p] ∧ ((SqL K H p ys ∧ ∀ l, H l = none → Q (.ref l) (upd H l (.tup ys))) ∨ (SqT K H p ys ∧ Q (.ref p) H))
def rLenK (K : PySem.W.Frag) : List V → Hp → VK → Prop := fun xs H Q => ∃ x n, xs = [x] ∧ LenV K x H n ∧ Q (.int (n : Nat)) H
section
variable {X : Cx} {K : PySem.W.Frag}
theorem cK_list (e : X.K = K) : CallR X (.type "list") (rListOf K) := by subst e; exact call_list_of
theorem cK_tuple (e : X.K = K) : CallR X (.type "tuple") (rTupleOf K) := by subst e; exact call_tuple_of
theorem cK_len (e : X.K = K) : CallR X (.builtin "len") (rLenK K) := by subst e; exact call_len
theorem cK_isi (e : X.K = K) : CallR X (.builtin "isinstance") (rIsi K) := by subst e; exact call_isi
theorem cK_isiT (e : X.K = K) : CallR X (.builtin "isinstance") (rIsiT K) := by subst e; exact call_isiT
theorem cK_sortedS (e : X.K = K) : CallR X (.builtin "sorted") (rSortedS K) := by subst e; exact cr_sortedS
theorem xK_list (e : X.K = K) : IxR X (rIxL K) := by subst e; exact ix_list
theorem xK_tup (e : X.K = K) : IxR X (rIxT K) := by subst e; exact ix_tup
theorem xK_seq (e : X.K = K) : IxR X (rIx K) := by subst e; exact ix_seq
theorem oK_catA (e : X.K = K) : OpR X (binaryOp .Add) (rCatA K) := by subst e; exact op_catA
theorem oK_in (e : X.K = K) : OpR X (compareOp .In) (rIn K false) := by subst e; exact op_in_seq
theorem oK_nin (e : X.K = K) : OpR X (compareOp .NotIn) (rIn K true) := by subst e; exact op_notIn_seq
theorem oK_eqD (e : X.K = K) (hu : X.A.units + 64 < cLine) : OpR X (compareOp .Eq) (rEqD K) := by subst e; exact op_eqD hu
theorem oK_neD (e : X.K = K) (hu : X.A.units + 64 < cLine) : OpR X (compareOp .NotEq) (rNeD K) := by subst e; exact op_neD hu
theorem iK_list {tg l : Expr} {tl : TE} (e : X.K = K) (hl : PE X l tl) : PI X tg l (iList K tl) := by subst e; exact pi_list hl
theorem iK_tup {tg l : Expr} {tl : TE} (e : X.K = K) (hl : PE X l tl) : PI X tg l (iTup K tl) := by subst e; exact pi_tup hl
end
end Sl
namespace Sl
open PySem PySem.Spec PyProof.Rows L2
/-! ### comparisons of data, membership, sorted: over what reads as data -/
section
variable {X : Cx} {K : PySem.W.Frag}
def okD (d e : PyData) : Prop := PySem.W.alike d e = true ∧ d ≠ .none ∧ d.depth ≤ 32
def rLtP (K : PySem.W.Frag) : R2 := fun x y H Q => ∃ d e, Dp K H x d ∧ Dp K H y e ∧ okD d e ∧ Q (.bl (PySem.W.dataLt d e)) H
def rGeP (K : PySem.W.Frag) : R2 := fun x y H Q => ∃ d e, Dp K H x d ∧ Dp K H y e ∧ okD d e ∧ Q (.bl (!PySem.W.dataLt d e)) H
def rGtP (K : PySem.W.Frag) : R2 := fun x y H Q => ∃ d e, Dp K H x d ∧ Dp K H y e ∧ okD d e ∧ Q (.bl (PySem.W.dataLt e d)) H
def rLeP (K : PySem.W.Frag) : R2 := fun x y H Q => ∃ d e, Dp K H x d ∧ Dp K H y e ∧ okD d e ∧ Q (.bl (!PySem.W.dataLt e d)) H
theorem oP_lt (e : X.K = K) (hu : X.A.units + 64 < cLine) : OpR X (compareOp .Lt) (rLtP K) := by
  subst e
  intro pins s σ H x y v u Q I rx ry h
  obtain ⟨d, e, hd, he, ⟨h1, h2, h3⟩, q⟩ := h
  obtain ⟨as, r1⟩ := Dp.reads I d x v hd rx
  obtain ⟨bs, r2⟩ := Dp.reads I e y u he ry
  exact PySem.W.lt_data r1 r2 h1 h2 (by have := Nat.min_le_left d.depth e.depth; omega) ⟨.bl _, H, I, rfl, q⟩
theorem oP_ge (e : X.K = K) (hu : X.A.units + 64 < cLine) : OpR X (compareOp .GtE) (rGeP K) := by
  subst e
  intro pins s σ H x y v u Q I rx ry h
  obtain ⟨d, e, hd, he, ⟨h1, h2, h3⟩, q⟩ := h
  obtain ⟨as, r1⟩ := Dp.reads I d x v hd rx
  obtain ⟨bs, r2⟩ := Dp.reads I e y u he ry
  exact PySem.W.ge_data r1 r2 h1 h2 (by have := Nat.min_le_left d.depth e.depth; omega) ⟨.bl _, H, I, rfl, q⟩
theorem oP_gt (e : X.K = K) (hu : X.A.units + 64 < cLine) : OpR X (compareOp .Gt) (rGtP K) := by
  subst e
  intro pins s σ H x y v u Q I rx ry h
  obtain ⟨d, e, hd, he, ⟨h1, h2, h3⟩, q⟩ := h
  obtain ⟨as, r1⟩ := Dp.reads I d x v hd rx
  obtain ⟨bs, r2⟩ := Dp.reads I e y u he ry
  exact PySem.W.gt_data r1 r2 h1 h2 (by have := Nat.min_le_left d.depth e.depth; omega) ⟨.bl _, H, I, rfl, q⟩
theorem oP_le (e : X.K = K) (hu : X.A.units + 64 < cLine) : OpR X (compareOp .LtE) (rLeP K) := by
  subst e
  intro pins s σ H x y v u Q I rx ry h
  obtain ⟨d, e, hd, he, ⟨h1, h2, h3⟩, q⟩ := h
  obtain ⟨as, r1⟩ := Dp.reads I d x v hd rx
  obtain ⟨bs, r2⟩ := Dp.reads I e y u he ry
  exact PySem.W.le_data r1 r2 h1 h2 (by have := Nat.min_le_left d.depth e.depth; omega) ⟨.bl _, H, I, rfl, q⟩
/-- no dict within, not too deep -/
def pln (d : PyData) : Prop := d.plain = true ∧ d.depth ≤ 32
def rEqP (K : PySem.W.Frag) : R2 := fun x y H Q => ∃ d e, Dp K H x d ∧ Dp K H y e ∧ pln d ∧ pln e ∧ Q (.bl (PyData.eqv d e)) H
def rNeP (K : PySem.W.Frag) : R2 := fun x y H Q => ∃ d e, Dp K H x d ∧ Dp K H y e ∧ pln d ∧ pln e ∧ Q (.bl (!PyData.eqv d e)) H
theorem oP_eq (e : X.K = K) (hu : X.A.units + 64 < cLine) : OpR X (compareOp .Eq) (rEqP K) := by
  subst e
  intro pins s σ H x y v u Q I rx ry h
  obtain ⟨d, e, hd, he, ⟨h1, h3⟩, ⟨h2, _⟩, q⟩ := h
  obtain ⟨as, r1⟩ := Dp.reads I d x v hd rx
  obtain ⟨bs, r2⟩ := Dp.reads I e y u he ry
  exact PySem.SeqAt.eq_plain r1 r2 h1 h2 (by have := Nat.min_le_left d.depth e.depth; omega) ⟨.bl _, H, I, rfl, q⟩
theorem oP_ne (e : X.K = K) (hu : X.A.units + 64 < cLine) : OpR X (compareOp .NotEq) (rNeP K) := by
  subst e
  intro pins s σ H x y v u Q I rx ry h
  obtain ⟨d, e, hd, he, ⟨h1, h3⟩, ⟨h2, _⟩, q⟩ := h
  obtain ⟨as, r1⟩ := Dp.reads I d x v hd rx
  obtain ⟨bs, r2⟩ := Dp.reads I e y u he ry
  exact PySem.SeqAt.ne_plain r1 r2 h1 h2 (by have := Nat.min_le_left d.depth e.depth; omega) ⟨.bl _, H, I, rfl, q⟩
def rInP (K : PySem.W.Frag) (neg : Bool) : R2 := fun x y H Q => ∃ d ds, Dp K H x d ∧ (Dp K H y (.list ds) ∨ Dp K H y (.tuple ds)) ∧ pln d ∧ PyData.plainAll ds = true ∧ Q (.bl (if neg then !(ds.any fun z => PyData.eqv z d) else ds.any fun z => PyData.eqv z d)) H
theorem oP_in (e : X.K = K) (hu : X.A.units + 64 < cLine) : OpR X (compareOp .In) (rInP K false) := by
  subst e
  intro pins s σ H x y v u Q I rx ry h
  obtain ⟨d, ds, hd, he, ⟨h1, h3⟩, h2, q⟩ := h
  obtain ⟨as, r1⟩ := Dp.reads I d x v hd rx
  rcases he with he | he
  · obtain ⟨bs, r2⟩ := Dp.reads I _ y u he ry
    exact PySem.SeqAt.in_list_data r2 r1 h2 h1 (by have := Nat.min_le_right (PyData.depthAll ds) d.depth; omega) ⟨.bl _, H, I, rfl, q⟩
  · obtain ⟨bs, r2⟩ := Dp.reads I _ y u he ry
    exact PySem.SeqAt.in_tuple_data r2 r1 h2 h1 (by have := Nat.min_le_right (PyData.depthAll ds) d.depth; omega) ⟨.bl _, H, I, rfl, q⟩
theorem oP_nin (e : X.K = K) (hu : X.A.units + 64 < cLine) : OpR X (compareOp .NotIn) (rInP K true) := by
  subst e
  intro pins s σ H x y v u Q I rx ry h
  obtain ⟨d, ds, hd, he, ⟨h1, h3⟩, h2, q⟩ := h
  obtain ⟨as, r1⟩ := Dp.reads I d x v hd rx
  rcases he with he | he
  · obtain ⟨bs, r2⟩ := Dp.reads I _ y u he ry
    exact PySem.SeqAt.notIn_list_data r2 r1 h2 h1 (by have := Nat.min_le_right (PyData.depthAll ds) d.depth; omega) ⟨.bl _, H, I, rfl, q⟩
  · obtain ⟨bs, r2⟩ := Dp.reads I _ y u he ry
    exact PySem.SeqAt.notIn_tuple_data r2 r1 h2 h1 (by have := Nat.min_le_right (PyData.depthAll ds) d.depth; omega) ⟨.bl _, H, I, rfl, q⟩
/-- sorted(xs) of data -/
def rSortedP (K : PySem.W.Frag) : List V → Hp → VK → Prop := fun vs H Q => ∃ (a : Addr) (xs : List V) (ds : List PyData), vs = [.ref a] ∧ SqL K H a xs ∧ DpAll K H xs ds ∧ PySem.W.AllAlike ds ∧ PySem.W.Sortable ds ∧ (∀ d ∈ ds, d.depth ≤ 32) ∧
  ∀ ys p, DpAll K H ys (ds.mergeSort (PySem.W.dataLe false fun d => d)) → H p = none → Q (.ref p) (upd H p (.lst ys))
theorem each_of {H : Hp} : ∀ {xs : List V} {us : List Value} {ds : List PyData}, Vals xs us → DpAll K H xs ds → PySem.W.EachIs (fun u d => ∃ v, RelV v u ∧ Dp K H v d) us ds
  | _, _, _, .nil, .nil => .nil
  | _, _, _, .cons r rs, .cons h hs => .cons ⟨_, r, h⟩ (each_of rs hs)
theorem of_each {H : Hp} : ∀ {us : List Value} {ds : List PyData}, PySem.W.EachIs (fun u d => ∃ v, RelV v u ∧ Dp K H v d) us ds → ∃ xs, Vals xs us ∧ DpAll K H xs ds
  | _, _, .nil => ⟨[], .nil, .nil⟩
  | _, _, .cons ⟨v, r, h⟩ t => by
    obtain ⟨xs, rs, hs⟩ := of_each t
    exact ⟨v :: xs, .cons r rs, .cons h hs⟩
theorem each_mono {α β : Type} {R S : α → β → Prop} (k : ∀ a b, R a b → S a b) : ∀ {xs : List α} {ys : List β}, PySem.W.EachIs R xs ys → PySem.W.EachIs S xs ys
  | _, _, .nil => .nil
  | _, _, .cons h t => .cons (k _ _ h) (each_mono k t)
theorem dpAll_len {H : Hp} : ∀ {xs : List V} {ds : List PyData}, DpAll K H xs ds → xs.length = ds.length
  | _, _, .nil => rfl
  | _, _, .cons _ t => congrArg Nat.succ (dpAll_len t)
theorem cP_sorted (e : X.K = K) (hu : X.A.units + 64 < cLine) : CallR X (.builtin "sorted") (rSortedP K) := by
  subst e
  intro pins s σ H vs us Q I r h
  obtain ⟨a, xs, ds, rfl, hs, hd, ha, hk, hdep, q⟩ := h
  obtain ⟨its, rv, hl, hz⟩ := I.list hs
  rw [Vals.ref1 r]
  have e1 := each_of rv hd
  have ln : ds.length ≤ sizeLine := by rw [← dpAll_len hd]; exact hz
  refine PySem.W.sorted_data (enc := fun d => d) hl.isList e1 (each_mono (fun u d ⟨v, rv, hv⟩ => Dp.reads I d v u hv rv) e1) (by rw [List.map_id']; exact ha) (by rw [List.map_id']; exact hk) ln (fun d hm => by have := hdep d hm; omega) fun out ho h1 => ?_
  obtain ⟨ys, rv2, hy⟩ := of_each h1
  obtain ⟨ep, he'⟩ := PyProof.Rows.sortedAll_at s.heap its (List.toArray out)
  have hlen : ys.length ≤ sizeLine := by rw [rv2.length, ho]; exact ln
  exact ⟨.ref _, upd H (s.heap.objs.size + 1) (.lst ys), I.laid (t' := s.toks) (fun _ _ => PyProof.Rows.sortedAll_old) (Nat.le_succ _) ⟨hlen, out, ep, rv2, he'⟩, rfl, q ys _ hy (I.hok.fresh (Nat.le_succ _))⟩
/-- xs.extend(t), t a tuple -/
def rExtendT (K : PySem.W.Frag) : V → List V → Hp → VK → Prop := fun x vs H Q => ∃ l b xs zs, x = .ref l ∧ vs = [.ref b] ∧ H l = some (.lst xs) ∧ SqT K H b zs ∧ xs.length + zs.length ≤ sizeLine ∧ Q .non (upd H l (.lst (xs ++ zs)))
end
end Sl
namespace Sl
open PySem PySem.Spec PyProof.Rows L2
theorem ext_tup (l b : Addr) (zs ws : Array Value) (n m : Nat) (dd : Option Addr) (sl : Array (Option Value)) (hs0 : ¬(!zs.isEmpty && Builtin.List.listTooLong (zs.size + ws.size)) = true) (hs1 : zs.size ≤ sizeLine) (hs2 : zs.size + ws.size ≤ sizeLine + 1) :
    Meets (Builtin.«list.extend» ⟨[.ref l, .ref b], []⟩) (fun _ R s => s.heap.get? l = some { cls := .type "list", dict := none, data := .seq zs n, slots := #[] } ∧ s.heap.get? b = some { cls := .type "tuple", dict := dd, data := .seq ws m, slots := sl } ∧
      R (.ok (.ret Value.none)) { s with heap := s.heap.update l (Obj.mapSeq fun x => x ++ ws) }) :=
  .of_wp fun prog w A R s h => by
    obtain ⟨hp, g, d, tk, os⟩ := s
    obtain ⟨hl, hb, h⟩ := h
    have f1 := AutoSeq1.idx_int; have f2 := AutoSeq1.sub_tuple_tuple; have f3 := AutoSeq1.sub_list_list
    have f4 := AutoSeq1.sub_tuple_list; have f5 := AutoSeq1.sub_list_tuple
    have hz' : (zs ++ ws).size ≤ sizeLine + 1 := by rw [Array.size_append]; exact hs2
    wp_walk using (wpAny_updateSeq hl rfl (hz := hs1) (_hz' := hz')), AutoSeq1.wpAny_loadPart' hl, AutoSeq1.wpAny_loadPart' hb
    exact ⟨_, rfl, h⟩
section
variable {X : Cx} {K : PySem.W.Frag}
theorem mt_extendT (e : X.K = K) : MtM X "list.extend" (rExtendT K) := by
  subst e
  intro pins s σ H x vs v us Q I rx rv h
  obtain ⟨l, b, xs, zs, rfl, rfl, hH, hB, hz, q⟩ := h
  cases rx
  obtain ⟨u, rfl, ru⟩ := rv.one
  cases ru
  obtain ⟨z, its, n, r, hl, e⟩ := I.lstM hH
  obtain ⟨its2, r2, ⟨o2, e2, c2, n2, d2⟩, hz2⟩ := I.tuple hB
  obtain ⟨oc, od, dt, sl⟩ := o2
  simp only at c2 d2
  subst c2 d2
  have l1 := r.length
  have l2 := r2.length
  have hsz : its.toArray.size + its2.toArray.size ≤ sizeLine := by rw [List.size_toArray, List.size_toArray]; omega
  have hlong : ¬ (!its.toArray.isEmpty && Builtin.List.listTooLong (its.toArray.size + its2.toArray.size)) = true := by
    rw [notLongL hsz, Bool.and_false]
    exact Bool.false_ne_true
  refine call_meets F.slot_list_extend ⟨_, e, rfl⟩ F.entry_list_extend (F.args_list_extend_2 _ _) (ext_tup l b its.toArray its2.toArray n n2 od sl hlong (by rw [List.size_toArray]; omega) (by omega)) ⟨e, e2, ?_⟩
  refine ⟨.non, _, I.lset (its' := its ++ its2) hH e (by simp) (r.append r2) ?_, rfl, q⟩
  rw [List.length_append]
  omega
end
end Sl
namespace Sl
open PySem PySem.Spec PyProof.Rows L2
theorem sortsAt_short {prog : Program} {w : World} {A : Around} {s : Shared} {vs : List Value} {ds : List PyData} (e : PySem.W.EachIs (fun v d => ∃ as, Reads s.heap v d as) vs ds) (hal : PySem.W.AllAlike ds) (h1 : ds.length ≤ 1) (hn : ∀ d ∈ ds, d ≠ .none) (hu : ∀ d, d ∈ ds → A.units + d.depth < cLine) : PySem.W.SortsAt prog w A s (PySem.W.dataKind s.heap ds) vs := by
  refine ⟨fun v hv => ?_, general', fun E x y a b Q ha hb hq => ?_, fun h2 => ?_⟩
  · obtain ⟨d, hd, as, r⟩ := e.left v hv
    exact ⟨_, PySem.W.dataKind_some hal hd r⟩
  · obtain ⟨d, as, hd, ra, rfl⟩ := PySem.W.dataKind_inv ha
    obtain ⟨d', as', hd', rb, rfl⟩ := PySem.W.dataKind_inv hb
    exact PySem.W.oneLt_alike (f := false) (fun z => Bool.noConfusion z) ra rb (hal d hd d' hd') (hn d hd) (Nat.lt_of_le_of_lt (Nat.add_le_add_left (Nat.min_le_left _ _) _) (hu d hd)) hq
  · have := e.length
    omega
section
variable {X : Cx} {K : PySem.W.Frag}
def rSortedQ (K : PySem.W.Frag) : List V → Hp → VK → Prop := fun vs H Q => ∃ (a : Addr) (xs : List V) (ds : List PyData), vs = [.ref a] ∧ SqL K H a xs ∧ DpAll K H xs ds ∧ PySem.W.AllAlike ds ∧ (PySem.W.Sortable ds ∨ (ds.length ≤ 1 ∧ ∀ d ∈ ds, d ≠ .none)) ∧ (∀ d ∈ ds, d.depth ≤ 32) ∧
  ∀ ys p, DpAll K H ys (ds.mergeSort (PySem.W.dataLe false fun d => d)) → H p = none → Q (.ref p) (upd H p (.lst ys))
theorem cQ_sorted (e : X.K = K) (hu : X.A.units + 64 < cLine) : CallR X (.builtin "sorted") (rSortedQ K) := by
  subst e
  intro pins s σ H vs us Q I r h
  obtain ⟨a, xs, ds, rfl, hs, hd, ha, hk, hdep, q⟩ := h
  obtain ⟨its, rv, hl, hz⟩ := I.list hs
  rw [Vals.ref1 r]
  have e1 := each_of rv hd
  have ln : ds.length ≤ sizeLine := by rw [← dpAll_len hd]; exact hz
  have fin : ∀ out : List Value, out.length = ds.length → PySem.W.EachIs (fun u d => ∃ v, RelV v u ∧ Dp X.K H v d) out (ds.mergeSort (PySem.W.dataLe false fun d => d)) → ∃ v H', Inv X pins σ H' { s with heap := PyProof.Rows.sortedAll s.heap its (List.toArray out) } ∧ RelV v (.ref (s.heap.objs.size + 1)) ∧ Q v H' := fun out ho h1 => by
    obtain ⟨ys, rv2, hy⟩ := of_each h1
    obtain ⟨ep, he'⟩ := PyProof.Rows.sortedAll_at s.heap its (List.toArray out)
    have hlen : ys.length ≤ sizeLine := by rw [rv2.length, ho]; exact ln
    exact ⟨.ref _, upd H (s.heap.objs.size + 1) (.lst ys), I.laid (t' := s.toks) (fun _ _ => PyProof.Rows.sortedAll_old) (Nat.le_succ _) ⟨hlen, out, ep, rv2, he'⟩, rfl, q ys _ hy (I.hok.fresh (Nat.le_succ _))⟩
  rcases hk with hk | ⟨hk, hn⟩
  · exact PySem.W.sorted_data (enc := fun d => d) hl.isList e1 (each_mono (fun u d ⟨v, rv, hv⟩ => Dp.reads I d v u hv rv) e1) (by rw [List.map_id']; exact ha) (by rw [List.map_id']; exact hk) ln (fun d hm => by have := hdep d hm; omega) fin
  · have er' : PySem.W.EachIs (fun v b => ∃ as, Reads (PySem.W.sortingHeap (PySem.W.copyHeap s.heap its) (s.heap.objs.size + 1) its) v b as) its ds := each_mono (fun v b ⟨as, r⟩ => ⟨as, PyProof.Rows.Reads.keeps (fun _ _ => PySem.W.sorting_copy_old) r⟩) (each_mono (fun u d ⟨v, rv, hv⟩ => Dp.reads I d v u hv rv) e1)
    refine PySem.W.sorted_vals hl.isList (sortsAt_short (s := { s with heap := PySem.W.sortingHeap (PySem.W.copyHeap s.heap its) (s.heap.objs.size + 1) its }) er' ha hk hn (fun d hm => by have := hdep d hm; show _ + 2 + _ < _; omega)) (by rw [e1.length]; exact ln)
      (fin _ (by rw [PySem.W.sortVals_length false rfl]; exact e1.length) ?_)
    have := PySem.W.sortVals_data (h' := PySem.W.sortingHeap (PySem.W.copyHeap s.heap its) (s.heap.objs.size + 1) its) (enc := fun d : PyData => d) false e1 er' (by rw [List.map_id']; exact ha)
    rw [List.map_id'] at this
    exact this
end
/-- a, b = .. in a comprehension's block -/
theorem gK_tup {X : Cx} {K : PySem.W.Frag} (n : Nat) {es : List Expr} {k : Nat} {pos : Pos} {t : TGs} (e : X.K = K) (hc : X.calm = true) (h : PGs X es t)
    (hn : (assignEach es X.env).length = n := by rfl) (hst : (assignEach es X.env).findIdx? (·.1) = none := by rfl) : PG X (.Tuple es k pos) (gTup K n t) := e ▸ pg_tup hc h hn hst
end Sl
namespace Sl
open PySem PySem.Spec PyProof.Rows L2
/-- what the text says of the base class whose __init__ is ValueError's: at S -/
structure SeI (K : PySem.W.Frag) (S : Addr) (mc : Value) : Prop where
  rd : PySem.W.readsIn K S mc = true
  ga : PySem.W.specialIn K (.ref S) "__getattribute__" = some (some (.builtin "type.__getattribute__"))
  it : PySem.W.findCls K (.ref S) mc "__init__" = some (.val (.builtin "ValueError.__init__"))
section
variable {X : Cx} {o e : Expr} {es : List Expr} {to te : TE} {ta : TA} {f x : Str} {p p' p1 p2 pos : Pos}
/-- Base.__init__(self, ..), Base an own class over ValueError without __init__ -/
theorem pe_seinit {S : Addr} {mc : Value} {pl : Sem Bool} (T : SeI X.K S mc) (hg : Gl X x) (hm : X.mg x = some (.ref S)) (ha : PA X (e :: es) ta) (hdb : (x == ("__debug__" : Str)) = false := by decide)
    (hc : eval (.Call (.Attribute (.Name x p1) "__init__" p2) (e :: es) [] pos) X.env = (do
      let ov ← eval (.Name x p1) X.env
      standAt p2.atName
      let (f, first) ← holding [ov] (getMethod ov "__init__" pl)
      callWith pos f first (backTo pos (starEach (e :: es) X.env)) (backToKw pos (keywordEach [] X.env))) := by rfl)
    (he : starEach (e :: es) X.env = (false, eval e X.env) :: starEach es X.env := by rfl) (hpl : (backTo pos (starEach es X.env)).any (·.1) = false := by rfl) :
    PE X (.Call (.Attribute (.Name x p1) "__init__" p2) (e :: es) [] pos) (tVeI X.K ta) := by
  refine ⟨fun pins s σ H Q I h => ?_⟩
  refine PySem.W.methodCall_KW (ld_glob I hg hm ?_ hdb) hc
  refine PySem.W.method_cls I.kIn T.ga (PySem.W.cls_value I.kIn T.rd T.it rfl ?_)
  show wpAny _ _ (callWith pos (Value.builtin "ValueError.__init__") [] (backTo pos (starEach (e :: es) X.env)) []) _ _ _
  refine PyProof.Rows.callWith_method1 (thn (ha.run pos pins _ σ H _ (I.tok _) h) fun us s1 ⟨vs, H1, I1, r1, a, C, ws, ev, hl, T, ea, q⟩ => ?_) he hpl
  subst ev
  cases r1 with
  | @cons _ u0 _ ur ra rw' =>
    obtain rfl : u0 = Value.ref a := ra
    have hlen : ur.length ≤ sizeLine := by
      rw [← Paired.length rw', sizeLine_eq]
      omega
    exact oinit_ok T I1 ea hlen fun s' J => ⟨.non, H1, J, rfl, q⟩
end
end Sl
namespace Sl
open PySem PySem.Spec PyProof.Rows L2
/-- an own exception class with one field that its __init__ sets: x the class, at C; f the field; its __init__ at fI -/
structure ErrK (K : PySem.W.Frag) (mg : Str → Option Value) (x f : Str) (C fI : Addr) (qual : Str) (st : Stmt) (fd : FuncData) : Prop where
  gC : mg x = some (.ref C)
  oex : OexC K C
  no : PySem.W.findIn K (.ref C) f = some none
  iC : PySem.W.findIn K (.ref C) "__init__" = some (some (.ref fI))
  tI : PySem.W.typeIn K (.ref fI) = some (.type "function")
  xf : XfC K C
  isa : PySem.W.findIn K (.ref C) "__class__" = some (some (.builtin "object.__class__"))
  isn : PySem.W.specialIn K (.builtin "object.__class__") "__get__" = some (some (.builtin "getset_descriptor.__get__"))
  ist : PySem.W.takesIn K (.builtin "object.__class__") = some true
  ism : PySem.W.mroIn K C (.type "object") = some true
  isc : PySem.W.isClsIn K C = true
  F : Fun K "__init__" qual st fI fd
  b : Binds K fd ["self", f] []
def sp_err (C : Addr) (f : Str) : Sp := fun vs H Q _ => ∃ (a : Addr) (v : V), vs = [.ref a, v] ∧ H a = some (exo a C none) ∧ ∀ dx, H dx = none → dx ≠ a → Q .non (upd (upd H dx (exd dx [(f, v)])) a (exo a C (some dx)))
section
variable {X : Cx} {o e : Expr} {es : List Expr} {to te : TE} {ta : TA} {f x : Str} {p p' p1 p2 pos : Pos}
/-- the end of such a making -/
theorem mkO_of {C : Addr} {vs : List V} {H1 : Hp} {Q : XK} (h : ∃ v, vs = [v] ∧ ∀ d, H1 d = none → Q (.ref C) (some d) (upd H1 d (.xd [(f, v)]))) :
    vs.length ≤ 1000 ∧ ∀ a, H1 a = none → sp_err C f (.ref a :: (vs ++ [])) (upd H1 a (exo a C none))
      (fun v H2 => v = .non ∧ ∃ (d : Addr) (fs : List (Str × V)), H2 a = some (exo a C (some d)) ∧ H2 d = some (exd d fs) ∧ H1 d = none ∧ Q (.ref C) (some d) (upd (del H2 a) d (.xd fs))) (fun _ _ _ => False) := by
  obtain ⟨v, rfl, q⟩ := h
  refine ⟨by simp, fun a ha => ⟨a, v, rfl, upd_same, fun dx hdx ne => ⟨rfl, dx, [(f, v)], upd_same, ?_, ?_, ?_⟩⟩⟩
  · rw [upd_ne ne, upd_same]
  · rwa [upd_ne ne] at hdx
  · have hd : H1 dx = none := by rwa [upd_ne ne] at hdx
    have e : upd (del (upd (upd (upd H1 a (exo a C none)) dx (exd dx [(f, v)])) a (exo a C (some dx))) a) dx (.xd [(f, v)]) = upd H1 dx (.xd [(f, v)]) := by
      funext b
      by_cases h1 : b = dx
      · subst h1; rw [upd_same, upd_same]
      · rw [upd_ne h1, upd_ne h1]
        by_cases h2 : b = a
        · subst h2; rw [del_same, ha]
        · rw [del_ne h2, upd_ne h2, upd_ne h1, upd_ne h2]
    rw [e]
    exact q dx hd
/-- C(e) -/
theorem pmk_err {C fI : Addr} {qual : Str} {st : Stmt} {fd : FuncData} (T : ErrK X.K X.mg x f C fI qual st fd) (F1 : FnOk X.prog X.w X.K X.mg X.base CX0 1 fI fd ["self", f] (sp_err C f)) (hr : Room 2 X.A) (hg : Gl X x) (ha : PA X (e :: es) ta)
    (hdb : (x == ("__debug__" : Str)) = false := by decide) (he : starEach (e :: es) X.env = (false, eval e X.env) :: starEach es X.env := by rfl) (hpl : (backTo pos (starEach es X.env)).any (·.1) = false := by rfl) :
    PMk X (.Call (.Name x p) (e :: es) [] pos) (tMkO C (sp_err C f) [] ta) := pmk_oex T.oex T.iC T.tI F1 hr T.b .nil pass0 hg T.gC ha hdb he hpl
/-- isinstance(e, c), e the exception that the suite holds (its dict: d) -/
def rIsF (K : PySem.W.Frag) (C a : Addr) (cls : Value) (d : Option Addr) : List V → Hp → VK → Prop := fun xs H Q => ∃ (c : V) (cv : Value) (b : Bool) (dd : Addr) (fs : List (Str × V)), xs = [.ref a, c] ∧ cls = .ref C ∧ d = some dd ∧ H dd = some (.xd fs) ∧ ClsV c cv ∧ PySem.W.kitOne K (.ref C) cv = some b ∧ Q (.bl b) H
theorem call_isF {a C fI : Addr} {oe : Obj} {cls : Value} {d : Option Addr} {pn : List (Addr × Obj)} {qual : Str} {st : Stmt} {fd : FuncData} (T : ErrK X.K X.mg x f C fI qual st fd) (hz : Zc cls d oe) (hf : ∃ vs, oe.data = .fields vs) :
    CallR (X.suite a ((a, oe) :: pn)) (.builtin "isinstance") (rIsF X.K C a cls d) := by
  intro pins s σ H xs us Q I r h
  obtain ⟨c, cv, b, dd, fs, rfl, rfl, rfl, hd, hcv, e, q⟩ := h
  obtain ⟨u1, u2, rfl, r1, r2⟩ := vals2 r
  have e2 := hcv.eq r2
  subst e2
  cases (show u1 = Value.ref a from r1)
  obtain ⟨ha, _⟩ := I.pin (a, oe) (List.mem_append_left _ List.mem_cons_self)
  obtain ⟨vs, hv⟩ := hf
  have hx : ObjOk X.prog X.w H s.heap dd (.xd fs) := I.hok dd _ hd
  obtain ⟨mA, hns, hr⟩ := hx
  obtain ⟨od, ho, hl⟩ := lookIn_ns hns
  have J : PySem.W.InstAt s.heap a oe C (some od) := ⟨ha, hz.1, by unfold PySem.W.notCls; rw [hv] <;> rfl, by rw [hz.2]; exact ho⟩
  exact PySem.W.kia_one (PySem.W.kitx_exc (gt := none) T.isc T.xf.ga T.xf.gg T.xf.exC T.isa T.isn T.ist T.ism) I.kIn J e (fun z => nomatch z) fun tk => ⟨.bl b, H, I.tok tk, rfl, q⟩
end
end Sl
namespace Sl
open PySem PySem.Spec PyProof.Rows L2
/-- a call with keywords, what is raised wished for at the caller's slots -/
def tCallNS (n m : Nat) (sp : Sp) (gV : List V → List V → List V) (E : L2.St → XK) (t tk : TA) : TE := fun σ H Q => t σ H fun vs H1 => tk σ H1 fun zs H2 => vs.length = n ∧ zs.length = m ∧ sp (gV vs zs) H2 Q (E σ)
section
variable {X : Cx} {CX : CXT} {k n : Nat} {f : Addr} {fd : FuncData} {ps ks : List Str} {sp : Sp} {E : L2.St → XK} {x : Str} {p pos : Pos} {e : Expr} {es : List Expr} {kws : List Keyword} {t tk : TA} {g : List Value → List Value → List Value} {gV : List V → List V → List V}
theorem run_fnNS {pins : List (Addr × Obj)} {σ : L2.St} {H : Hp} {s : Shared} {Q : VK} {us ws : List Value} {vs zs : List V} (F : FnOk X.prog X.w X.K X.mg X.base CX k f fd ps sp) (hr : Room k X.A) (hb : KBn X.K fd ps n ks g gV) (hx : PassesAt CX X σ (E σ))
    (I : Inv X pins σ H s) (r : Vals vs us) (rz : Vals zs ws) (l1 : vs.length = n) (l2 : zs.length = ks.length) (h : sp (gV vs zs) H Q (E σ)) : wpAny (model X.prog X.w) X.A (call (.ref f) us (ks.zip ws)) (EP X pins σ Q) X.xe s := by
  have r2 := hb.rel r rz
  refine wpAny_call (codeAny_mono (F.run X.A X.stack s H ⟨us, ks.zip ws⟩ (g us ws) (gV vs zs) Q (E σ) hr I.env0 (hb.to s us ws I.kIn (r.length.symm.trans l1) (rz.length.symm.trans l2)) r2 h) fun r s' hq => ?_)
  cases r with
  | error e => exact hx pins H s e s' I hq
  | ok fl =>
    cases fl with
    | ret u => exact I.after hq
    | next => exact False.elim hq
    | brk => exact False.elim hq
    | cont => exact False.elim hq
theorem pe_callNS (F : FnOk X.prog X.w X.K X.mg X.base CX k f fd ps sp) (hr : Room k X.A) (hg : Gl X x) (hm : X.mg x = some (.ref f)) (hk : PySem.W.keepIn X.K (.ref f) = true) (hb : KBn X.K fd ps n ks g gV) (hx : ∀ σ, PassesAt CX X σ (E σ))
    (ha : PA X (e :: es) t) (hkw : PK X kws tk) (hall : (backToKw pos (keywordEach kws X.env)).all (·.1.isSome) = true := by rfl) (hks : (backToKw pos (keywordEach kws X.env)).filterMap (·.1) = ks := by rfl)
    (hdb : (x == ("__debug__" : Str)) = false := by decide) (he : starEach (e :: es) X.env = (false, eval e X.env) :: starEach es X.env := by rfl)
    (hpl : ((backTo pos (starEach (e :: es) X.env)).any (·.1) || (backToKw pos (keywordEach kws X.env)).any (·.1.isNone)) = false := by rfl) :
    PE X (.Call (.Name x p) (e :: es) kws pos) (tCallNS n ks.length sp gV E t tk) := by
  refine ⟨fun pins s σ H Q I h => ?_⟩
  refine wpAny_Call_Name_kw (ld_glob I hg hm ?_ hdb)
  refine PySem.W.callWith_KW (h₀ := X.base) I.ok.mod.kin hk hall (thn (ha.run pos pins s σ H _ I h) fun us s1 ⟨vs, H1, I1, r, q⟩ => ?_) hpl he
  refine thn (hkw.run pos pins s1 σ H1 _ I1 q) fun ws s2 ⟨zs, H2, I2, rz, l1, l2, q2⟩ => ⟨I2.kIn, ?_⟩
  rw [hks]
  exact run_fnNS F hr hb (hx σ) I2 r rz l1 l2 q2
end
end Sl
namespace Sl
open PySem PySem.Spec PyProof.Rows L2
/-- s * n -/
def rRepS : R2 := fun x y H Q => ∃ (s : Str) (n : Int), x = .str s ∧ y = .int n ∧ 0 ≤ n ∧ n ≤ 1000 ∧ s.length ≤ 1000 ∧ ∀ z : Str, TL.tl z = (List.replicate n.toNat (TL.tl s)).flatten → Q (.str z) H
theorem rep_tl (k : Nat) (a : Array Nat) : ∀ b : Array Nat, ((List.replicate k a).foldl (· ++ ·) b).toList = b.toList ++ (List.replicate k a.toList).flatten := by
  induction k with
  | zero => intro b; simp
  | succ k ih =>
    intro b
    rw [List.replicate_succ, List.foldl_cons, ih, Array.toList_append, List.replicate_succ, List.flatten_cons, List.append_assoc]
theorem op_rep_str {X : Cx} : OpR X (binaryOp .Mult) rRepS := by
  intro pins s σ H x y v u Q I rx ry h
  obtain ⟨z, n, rfl, rfl, h0, h1, h2, q⟩ := h
  obtain ⟨t, rfl⟩ := rx
  obtain ⟨t', rfl⟩ := ry
  have ez : z.length = (TL.tl z).length := TL.len_tl z
  refine PySem.P.mul_str (by rw [decide_eq_false (by omega), decide_eq_false (by omega)]; rfl) (fun a _ => ?_) (fun _ _ => ?_) ?_
  · intro hh
    have : (1000 : Int) ≤ (2 ^ 63 - 1) / n := by
      rw [Int.le_ediv_iff_mul_le (by omega)]
      omega
    omega
  · have hk : z.length * n.toNat ≤ 1000 * 1000 := Nat.mul_le_mul h2 (by omega)
    show decide (z.length * n.toNat > sizeLine) = false
    rw [decide_eq_false]
    rw [sizeLine_eq]; omega
  · by_cases c : n < 1
    · rw [if_pos c]
      refine ⟨by decide, .str Str.empty, H, I.tok _, ⟨_, rfl⟩, q _ ?_⟩
      have : n = 0 := by omega
      subst this
      rfl
    · rw [if_neg c]
      by_cases c2 : (n == 1 || z.length == 0) = true
      · rw [if_pos c2]
        refine ⟨.str z, H, I, ⟨_, rfl⟩, q _ ?_⟩
        simp only [Bool.or_eq_true, beq_iff_eq] at c2
        rcases c2 with c2 | c2
        · subst c2; simp
        · have : TL.tl z = [] := List.length_eq_zero_iff.mp (by omega)
          rw [this]; simp
      · rw [if_neg c2]
        refine ⟨?_, .str _, H, I.tok _, ⟨_, rfl⟩, q _ ?_⟩
        · show ((List.replicate n.toNat z.cps).foldl (· ++ ·) #[]).size ≤ sizeLine
          have e := rep_tl n.toNat z.cps #[]
          have e2 := congrArg List.length e
          rw [Array.length_toList] at e2
          rw [e2]
          have hk : n.toNat * z.length ≤ 1000 * 1000 := Nat.mul_le_mul (by omega) h2
          have ez2 : z.cps.toList.length = z.length := by rw [Array.length_toList]; rfl
          simp only [List.nil_append, List.length_flatten, List.map_replicate, List.sum_replicate_nat, ez2]
          rw [sizeLine_eq]; omega
        · exact (rep_tl n.toNat z.cps #[]).trans (by simp)
end Sl
/-! dict(zip(a, b)) of two tuples whose first holds texts, each once -/
namespace Sl
open PySem PySem.Spec PyProof.Rows L2 RZ

section
variable {prog : Program} {w : World} {A : Around} {E : Value → Shared → Prop} {s : Shared}
/-- a zip over two tuples asked while the pair that it gave before is still held -/
theorem zipT_held {z TI TO T i1 i2 l1 l2 : Addr} {f : Bool} {oT : Obj} {k : Nat} {xs ys : Array Value} {Q : Option Value → Shared → Prop} (hh : A.handled = none) (D : ZipApart z TI TO i1 i2 l1 l2)
    (hz : IsZipHeld s.heap z TI TO T f) (hT : s.heap.get? T = some oT) (hTI : IsPair s.heap TI (.ref i1) (.ref i2)) (h1 : s.heap.IsTupleIter i1 l1 k) (h2 : s.heap.IsTupleIter i2 l2 k) (hl1 : s.heap.IsTuple l1 xs) (hl2 : s.heap.IsTuple l2 ys)
    (hsome : ∀ x y, xs[k]? = some x → ys[k]? = some y → ∀ h', IsZipHeld h' z TI TO T true → h'.IsTupleIter i1 l1 (k + 1) → h'.IsTupleIter i2 l2 (k + 1) → IsPair h' s.heap.objs.size x y →
      (∀ c o, c ≠ z → c ≠ i1 → c ≠ i2 → s.heap.get? c = some o → h'.get? c = some o) → Q (some (.ref s.heap.objs.size)) { s with heap := h' })
    (hnone : xs[k]? = none ∨ ys[k]? = none → ∀ h', (∀ c o, c ≠ z → c ≠ i1 → c ≠ i2 → s.heap.get? c = some o → h'.get? c = some o) → Q none { s with heap := h' }) :
    wpAny (model prog w) A (pyNext (.ref z)) Q E s := by
  have ty : s.TypeIs (.ref z) "zip" := ⟨_, hz, rfl⟩
  have stop : ∀ (h' : Heap) (e : Addr), (xs[k]? = none ∨ ys[k]? = none) → (∀ c o, c ≠ z → c ≠ i1 → c ≠ i2 → s.heap.get? c = some o → h'.get? c = some o) → (∃ o, h'.get? e = some o ∧ o.cls = .type "StopIteration") →
      wpAny (model prog w) A (do if ← isInstance (.ref e) (.type "StopIteration") then pure none else throw (.ref e)) Q E { s with heap := h' } := fun h' e hn hk ⟨o, ho, hc⟩ =>
    wpAny_bind (wpAny_isInstance (T := "StopIteration") (b := true) ⟨o, ho, hc⟩ isSubtype_stop (wpAny_pure (hnone hn h' hk)))
  unfold pyNext
  refine wpAny_bind (wpAny_attempt (wpAny_callSpecial?_slot (name := Str.ofString "__next__") ty F.slot_zip_next (wpAny_call_entry F.slot_zip_next ty F.entry_zip_next ?_ (F.args_zip_next_1 _))))
  show wpAny _ _ (field (.ref z) 2 >>= _) _ _ _
  refine wpAny_bind (wpAny_field hz rfl (x := .bool false) rfl ?_)
  show wpAny _ _ (field (.ref z) 3 >>= _) _ _ _
  refine wpAny_bind (wpAny_field hz rfl (x := .ref TI) rfl (wpAny_bind (wpAny_seqItems hTI rfl ?_)))
  show wpAny _ _ (Builtin.SmallTypes.ownedTupleIsFree (.ref z) >>= _) _ _ _
  refine wpAny_bind (wpAny_tupleHeld_zip hz hT fun g1 z1 e1 => ?_)
  simp only [Bool.false_eq_true, if_false]
  refine wpAny_bind ?_
  rw [← Array.forIn_toList]
  simp only [List.forIn_cons, List.forIn_nil]
  refine wpAny_bind (wpAny_bind (wpAny_holding ?_))
  show wpAny _ _ (Builtin.SmallTypes.nextOf (.ref i1) >>= _) _ _ _
  have p1 := h1.extBut e1.extBut D.i1z
  have q1 := hl1.extBut e1.extBut D.l1z
  cases hx : xs[k]? with
  | none =>
    refine wpAny_bind (nextOf_tuple_end (s := { s with heap := g1 }) hh p1 q1 hx fun g2 e k2 he => ?_)
    exact stop g2 e (.inl hx) (fun c o c1 c2 _ y => k2 _ _ c2 (e1.extBut _ _ c1 y)) he
  | some x =>
    refine wpAny_bind (nextOf_tuple_item (s := { s with heap := g1 }) p1 q1 hx fun g2 p2 e2 => wpAny_pure (wpAny_pure (wpAny_bind (wpAny_bind (wpAny_holding ?_)))))
    show wpAny _ _ (Builtin.SmallTypes.nextOf (.ref i2) >>= _) _ _ _
    have r2 := (h2.extBut e1.extBut D.i2z).extBut e2.extBut D.i12.symm
    have t2 := (hl2.extBut e1.extBut D.l2z).extBut e2.extBut D.l2i1
    cases hy : ys[k]? with
    | none =>
      refine wpAny_bind (nextOf_tuple_end (s := { s with heap := g2 }) hh r2 t2 hy fun g3 e k3 he => ?_)
      exact stop g3 e (.inr hy) (fun c o c1 c2 c3 y => k3 _ _ c3 (e2.extBut _ _ c2 (e1.extBut _ _ c1 y))) he
    | some y =>
      refine wpAny_bind (nextOf_tuple_item (s := { s with heap := g2 }) r2 t2 hy fun g3 r3 e3 => wpAny_pure (wpAny_pure (wpAny_pure ?_)))
      show wpAny _ _ (newTuple [x, y] >>= _) _ _ _
      refine wpAny_bind (wpAny_newTuple (wpAny_pure ⟨_, rfl, wpAny_pure ?_⟩))
      have sz : g3.objs.size = s.heap.objs.size := by rw [e3.1, e2.1, e1.1]
      have z3 : IsZipHeld g3 z TI TO T true := e3.extBut _ _ D.i2z.symm (e2.extBut _ _ D.i1z.symm z1)
      have p3 := p2.extBut e3.extBut D.i12
      have pr : IsPair (g3.push { cls := .type "tuple", data := .seq #[x, y] }) g3.objs.size x y := Heap.get?_push_size _ rfl
      show Q (some (.ref g3.objs.size)) _
      rw [sz] at pr ⊢
      exact hsome x y hx hy _ (Heap.get?_push_of_some _ z3) (p3.at fun o e => Heap.get?_push_of_some _ e) (r3.at fun o e => Heap.get?_push_of_some _ e) pr
        fun c o c1 c2 c3 v => Heap.get?_push_of_some _ (e3.extBut _ _ c3 (e2.extBut _ _ c2 (e1.extBut _ _ c1 v)))
end
section
variable {prog : Program} {w : World}
theorem zipT_arg (z TI TO i1 i2 l1 l2 : Addr) (D : ZipApart z TI TO i1 i2 l1 l2) (xs ys : Array Value) :
    PairArg prog w "zip" z [z, TI, TO, i1, i2, l1, l2] [z, TO, i1, i2] (min xs.size ys.size) (fun i k v => xs[i]? = some k ∧ ys[i]? = some v)
      (fun h => IsZip h z TI TO .none ∧ IsPair h TI (.ref i1) (.ref i2) ∧ (∃ a b, IsPair h TO a b) ∧ h.IsTupleIter i1 l1 0 ∧ h.IsTupleIter i2 l2 0 ∧ h.IsTuple l1 xs ∧ h.IsTuple l2 ys) where
  type := fun s ok => ⟨_, ok.1, rfl⟩
  notDict := by decide
  keep := fun h h' ⟨a, b, ⟨c, d, e⟩, f, g, i, j⟩ hk => ⟨hk _ _ a, hk _ _ b, ⟨c, d, hk _ _ e⟩, f.at fun o x => hk _ o x, g.at fun o x => hk _ o x, i.at fun o x => hk _ o x, j.at fun o x => hk _ o x⟩
  there := fun h ⟨a, b, ⟨c, d, e⟩, ⟨o1, f, _⟩, ⟨o2, g, _⟩, ⟨o3, i, _⟩, ⟨o4, j, _⟩⟩ b' hb => by
    simp only [List.mem_cons, List.not_mem_nil, or_false] at hb
    rcases hb with r | r | r | r | r | r | r <;> subst r
    · exact ⟨_, a⟩
    · exact ⟨_, b⟩
    · exact ⟨_, e⟩
    · exact ⟨_, f⟩
    · exact ⟨_, g⟩
    · exact ⟨_, i⟩
    · exact ⟨_, j⟩
  sub := fun b hb => by
    simp only [List.mem_cons, List.not_mem_nil, or_false] at hb ⊢
    rcases hb with r | r | r | r <;> simp [r]
  noKeys := fun A s Q E hA ok h => getAttrOr_miss_zip ok.1 rfl rfl rfl zip_no_keys (by decide +kernel) hA h
  iter := fun A s d Q E hA ⟨a, b, ⟨c, d', e⟩, f, g, i, j⟩ hd hdf h => by
    simp only [List.mem_cons, List.not_mem_nil, or_false, not_or] at hdf
    obtain ⟨dz, dTI, dTO, d1, d2, dl1, dl2⟩ := hdf
    refine wpAny_pyIter_zip a (h z [z, TO, i1, i2] (fun n h => IsPair h TI (.ref i1) (.ref i2) ∧ h.IsTupleIter i1 l1 n ∧ h.IsTupleIter i2 l2 n ∧ h.IsTuple l1 xs ∧ h.IsTuple l2 ys ∧
      ((IsZip h z TI TO .none ∧ ∃ a b, IsPair h TO a b) ∨ ∃ T f oT, IsZipHeld h z TI TO T f ∧ h.get? T = some oT ∧ T ≠ z ∧ T ≠ i1 ∧ T ≠ i2 ∧ T ≠ d)) s.heap s.toks ?_
      ⟨b, f, g, i, j, .inl ⟨a, c, d', e⟩⟩ (fun _ _ e => e) fun b hb => .inl hb)
    refine ⟨fun hm => ?_, fun n h₁ h₂ ⟨s1, s2, s3, s4, s5, s6⟩ hk => ?_, fun n s₁ Q₁ E₁ hn ⟨s1, s2, s3, s4, s5, s6⟩ hds hQ => ?_, fun s₁ Q₁ E₁ ⟨s1, s2, s3, s4, s5, s6⟩ hQ => ?_⟩
    · simp only [List.mem_cons, List.not_mem_nil, or_false] at hm
      rcases hm with r | r | r | r
      · exact dz r
      · exact dTO r
      · exact d1 r
      · exact d2 r
    · refine ⟨hk _ _ (Ne.symm dTI) s1, s2.at fun o e => hk _ o (Ne.symm d1) e, s3.at fun o e => hk _ o (Ne.symm d2) e, s4.at fun o e => hk _ o (Ne.symm dl1) e, s5.at fun o e => hk _ o (Ne.symm dl2) e, ?_⟩
      rcases s6 with ⟨q1, a, b, q2⟩ | ⟨T, f, oT, q1, q2, r1, r2, r3, r4⟩
      · exact .inl ⟨hk _ _ (Ne.symm dz) q1, a, b, hk _ _ (Ne.symm dTO) q2⟩
      · exact .inr ⟨T, f, oT, hk _ _ (Ne.symm dz) q1, hk _ _ r4 q2, r1, r2, r3, r4⟩
    · have hix : n < xs.size := Nat.lt_of_lt_of_le hn (Nat.min_le_left ..)
      have hiy : n < ys.size := Nat.lt_of_lt_of_le hn (Nat.min_le_right ..)
      have ex := Array.getElem?_eq_getElem hix
      have ey := Array.getElem?_eq_getElem hiy
      have lt : ∀ {c o}, s₁.heap.get? c = some o → s₁.heap.objs.size ≠ c := fun e => Nat.ne_of_gt (Heap.lt_size e)
      have n1 : s₁.heap.objs.size ≠ i1 := let ⟨_, e, _⟩ := s2; lt e
      have n2 : s₁.heap.objs.size ≠ i2 := let ⟨_, e, _⟩ := s3; lt e
      rcases s6 with ⟨q1, a, b, q2⟩ | ⟨T, f, oT, q1, q2, r1, r2, r3, r4⟩
      · refine pyNext_zipT_item D q1 s1 q2 s2 s3 s4 s5 ex ey fun h' a1 a2 a3 a4 a5 a6 hk => ?_
        exact hQ s₁.heap.objs.size _ _ h' s₁.toks ⟨ex, ey⟩ (.inl ⟨_, a5, rfl, _, rfl⟩)
          ⟨hk _ _ D.TIz D.TITO D.TIi1 D.TIi2 s1, a3, a4, s4.at fun o e => hk _ o D.l1z D.l1TO D.l1i1 D.l1i2 e, s5.at fun o e => hk _ o D.l2z D.l2TO D.l2i1 D.l2i2 e,
            .inr ⟨s₁.heap.objs.size, false, _, a1, a5, lt q1, n1, n2, Nat.ne_of_gt hds⟩⟩
          fun c o hc e => hk c o (fun x => hc (by simp [x])) (fun x => hc (by simp [x])) (fun x => hc (by simp [x])) (fun x => hc (by simp [x])) e
      · refine zipT_held hA D q1 q2 s1 s2 s3 s4 s5 (fun x y hx hy h' a1 a3 a4 a5 hk => ?_) fun hn' => ?_
        · exact hQ s₁.heap.objs.size _ _ h' s₁.toks ⟨hx, hy⟩ (.inl ⟨_, a5, rfl, _, rfl⟩)
            ⟨hk _ _ D.TIz D.TIi1 D.TIi2 s1, a3, a4, s4.at fun o e => hk _ o D.l1z D.l1i1 D.l1i2 e, s5.at fun o e => hk _ o D.l2z D.l2i1 D.l2i2 e,
              .inr ⟨T, true, oT, a1, hk _ _ r1 r2 r3 q2, r1, r2, r3, r4⟩⟩
            fun c o hc e => hk c o (fun x => hc (by simp [x])) (fun x => hc (by simp [x])) (fun x => hc (by simp [x])) e
        · rw [ex, ey] at hn'
          rcases hn' with h | h <;> cases h
    · have hend : xs[min xs.size ys.size]? = none ∨ ys[min xs.size ys.size]? = none := by
        rcases Nat.le_total xs.size ys.size with h | h
        · exact .inl (Array.getElem?_eq_none (by rw [Nat.min_eq_left h]; exact Nat.le_refl _))
        · exact .inr (Array.getElem?_eq_none (by rw [Nat.min_eq_right h]; exact Nat.le_refl _))
      rcases s6 with ⟨q1, a, b, q2⟩ | ⟨T, f, oT, q1, q2, r1, r2, r3, r4⟩
      · exact pyNext_zipT_end hA D q1 s1 q2 s2 s3 s4 s5 hend fun h' hk => hQ h' s₁.toks fun c o hc e => hk c o (fun x => hc (by simp [x])) (fun x => hc (by simp [x])) (fun x => hc (by simp [x])) (fun x => hc (by simp [x])) e
      · refine zipT_held hA D q1 q2 s1 s2 s3 s4 s5 (fun x y hx hy => ?_) fun _ h' hk => hQ h' s₁.toks fun c o hc e => hk c o (fun x => hc (by simp [x])) (fun x => hc (by simp [x])) (fun x => hc (by simp [x])) e
        rw [hx, hy] at hend
        rcases hend with h | h <;> cases h
end

def kvZ (ks : List Str) (ys : List V) : List (Key × V) := (ks.zip ys).map fun p => (.inr p.1, p.2)
def kvU (ks : List Str) (us : List Value) : List (Key × Value) := (ks.zip us).map fun p => (.inr p.1, p.2)
theorem kv_paired : ∀ {ks : List Str} {ys : List V} {us : List Value}, Vals ys us → KV (kvZ ks ys) (kvU ks us)
  | [], _, _, _ => .nil
  | k :: ks, _, _, .nil => .nil
  | k :: ks, _, _, .cons r t => .cons ⟨rfl, r⟩ (kv_paired t)
theorem zip_fst {us : List Value} : ∀ ks : List Str, ((ks.zip us).map (·.1)).Sublist ks := by
  induction us with
  | nil => intro ks; simp
  | cons u r ih =>
    intro ks
    cases ks with
    | nil => simp
    | cons k ks => simpa using ih ks
theorem kvU_nodup {ks : List Str} {us : List Value} (h : ks.Nodup) : ((kvU ks us).map (fun x => x.1)).Nodup := by
  have e2 : (kvU ks us).map (fun x => x.1) = ((ks.zip us).map (fun x => x.1)).map (Sum.inr : Str → Key) := by
    unfold kvU
    simp [List.map_map, Function.comp]
  rw [e2]
  exact List.Pairwise.map _ (fun a b n z => n (Sum.inr.inj z)) (h.sublist (zip_fst ks))
def tDZip (K : PySem.W.Frag) (ta : TA) : TE := fun σ H Q => ta σ H fun vs H1 => ∃ (a b : Addr) (ks : List Str) (ys : List V), vs = [.ref a, .ref b] ∧ SqT K H1 a (ks.map V.str) ∧ SqT K H1 b ys ∧ ks.Nodup ∧ ks.length = ys.length ∧ ∀ p, H1 p = none → Q (.ref p) (upd H1 p (.dK (kvZ ks ys)))
theorem pe_dzip {X : Cx} {K : PySem.W.Frag} {e e2 : Expr} {ta : TA} {p p2 p3 pos : Pos} (hK : X.K = K) (hg : Gl X "dict") (hm : X.mg "dict" = none) (hg2 : Gl X "zip") (hm2 : X.mg "zip" = none) (ha : PA X [e, e2] ta) (hc : X.calm = true := by rfl)
    (hs : starEach [e, e2] X.env = (false, eval e X.env) :: starEach [e2] X.env := by rfl) (hpl : (backTo p3 (starEach [e2] X.env)).any (·.1) = false := by rfl)
    (hs2 : starEach [.Call (.Name "zip" p2) [e, e2] [] p3] X.env = (false, eval (.Call (.Name "zip" p2) [e, e2] [] p3) X.env) :: starEach [] X.env := by rfl) :
    PE X (.Call (.Name "dict" p) [.Call (.Name "zip" p2) [e, e2] [] p3] [] pos) (tDZip K ta) := by
  subst hK
  refine ⟨fun pins s σ H Q I h => ?_⟩
  have h0 : ta σ H fun vs H1 => ∃ (a b : Addr) (ks : List Str) (ys : List V), vs = [.ref a, .ref b] ∧ SqT X.K H1 a (ks.map V.str) ∧ SqT X.K H1 b ys ∧ ks.Nodup ∧ ks.length = ys.length ∧ ∀ p, H1 p = none → Q (.ref p) (upd H1 p (.dK (kvZ ks ys))) := h
  refine Call_ (ld_blt I hg hm PyProof.Rows.boot_dict (PyProof.Rows.callWith_type1 ?_ hs2 rfl))
  refine PyProof.Rows.spliced_more ?_ hs2
  refine Call_ (ld_blt I hg2 hm2 PyProof.Rows.boot_zip (PyProof.Rows.callWith_type1 (thn (ha.run p3 pins s σ H _ I h0) fun us s1 ⟨vs, H1, I1, r1, q1⟩ => ?_) hs hpl))
  obtain ⟨a, b, ks, ys, ex, ha1, hb1, hn, hl, q⟩ := q1
  subst ex
  cases r1 with
  | cons r rr =>
    cases rr with
    | cons r' rr =>
      cases rr
      cases r
      cases r'
      obtain ⟨its, rv, p1, z1⟩ := I1.tuple ha1
      obtain ⟨its2, rv2, p2', z2⟩ := I1.tuple hb1
      obtain ⟨o1, ho1, _⟩ := id p1
      obtain ⟨o2, ho2, _⟩ := id p2'
      have t1 : s1.heap.IsTuple a its.toArray := p1
      have t2 : s1.heap.IsTuple b its2.toArray := p2'
      refine call_zipT t1 t2 fun h' hz hTI hTO h1 h2 hsz hk => ?_
      refine PyProof.Rows.spliced_none ?_
      have D := PySem.W.ktu_apart s1.heap.objs.size a b (Heap.lt_size ho1) (Heap.lt_size ho2)
      have lz : its.length = its2.length := by
        have e1 := rv.length
        have e2 := rv2.length
        rw [List.length_map] at e1
        omega
      have hz1 : its.length ≤ sizeLine := by
        have e1 := rv.length
        have : (ks.map V.str).length ≤ sizeLine := z1
        omega
      refine call_dict_pairs (knd := mixKind X.prog X.w) (kvs := kvU ks its2) (zipT_arg _ _ _ _ _ a b D its.toArray its2.toArray) (I1.ok.hd hc) ⟨hz, hTI, ⟨_, _, hTO⟩, h1, h2, t1.at fun o e => hk _ o e, t2.at fun o e => hk _ o e⟩ ⟨?_, fun i key v ⟨ek, ev⟩ => ?_⟩ ?_ fun h2' tk hd' hk' => ?_
      · unfold kvU
        have e1 := rv.length
        rw [List.length_map] at e1
        simp
        omega
      · have ek' : its[i]? = some key := by simpa using ek
        have ev' : its2[i]? = some v := by simpa using ev
        have il : i < ks.length := by
          have e1 := rv.length
          rw [List.length_map] at e1
          have := (List.getElem?_eq_some_iff.mp ek').1
          omega
        have hk1 : ks[i]? = some (ks[i]'il) := List.getElem?_eq_getElem il
        obtain ⟨u, hu, rx⟩ := rv.get (i := i) (by rw [List.getElem?_map, hk1]; rfl)
        rw [ek'] at hu
        cases hu
        obtain ⟨t, rfl⟩ := rx
        refine ⟨.inr (ks[i]'il), ?_, keyIs_str _ t⟩
        unfold kvU
        rw [List.getElem?_map, List.getElem?_zip_eq_some (z := (ks[i]'il, v)) |>.mpr ⟨hk1, ev'⟩]
        rfl
      · simp; omega
      · rw [merged_nil_of_nodup _ (kvU_nodup hn)] at hd'
        have hd2 : h2'.DictOf (mixKind X.prog X.w) h'.objs.size (kvU ks its2) := hd'
        rw [hsz] at hd2
        have keep : ∀ c o, s1.heap.get? c = some o → h2'.get? c = some o := fun c o e => by
          refine hk' c o (fun m => ?_) (hk c o e)
          have lt := Heap.lt_size e
          simp only [List.mem_cons, List.not_mem_nil, or_false] at m
          rcases m with r | r | r | r <;> (rw [r] at lt; exact absurd lt (by show ¬ ((_ : Nat) < _); omega))
        refine ⟨.ref (s1.heap.objs.size + 5), _, I1.laid (a := s1.heap.objs.size + 5) (o := .dK (kvZ ks ys)) (t' := tk) keep (by omega) ?_, by show Value.ref h'.objs.size = _; rw [hsz], q _ (I1.hok.fresh (by omega))⟩
        refine ⟨?_, ?_, kvU ks its2, kv_paired rv2, hd2⟩
        · unfold kvZ
          have e1 := rv.length
          rw [List.length_map] at e1
          simp
          omega
        · have hb : sysModules < s1.heap.objs.size := I1.big
          exact beq_eq_false_iff_ne.mpr (Nat.ne_of_gt (Nat.lt_of_lt_of_le hb (Nat.le_add_right _ _)))
end Sl
/-! sum of a tuple of ints -/
namespace Sl
open PySem PySem.Spec PyProof.Rows L2
section
variable {prog : Program} {w : World} {A : Around} {E : Value → Shared → Prop} {s : Shared} {l : Addr} {its : List Value} {ns : List Int}
theorem sum_rawT {Q : Value → Shared → Prop} (hh : A.handled = none) (hl : s.heap.IsTuple l its.toArray) (hi : IntsAre its ns)
    (h : ∀ h' tk t', (∀ b o, s.heap.get? b = some o → h'.get? b = some o) → Q (.int ns.sum t') { s with heap := h', toks := tk }) : wpAny (model prog w) A (call (.builtin "sum") [.ref l]) Q E s := by
  obtain ⟨xs, e⟩ := hi.allInts.items
  have hn : numsOf (intItems xs).toList = ns := by rw [← e]; exact hi.numsOf
  rw [nums_intItems] at hn
  rw [e] at hl
  obtain ⟨o, ho, _⟩ := id hl
  have hlt : l < s.heap.objs.size := Heap.lt_size ho
  refine call_sum_walkG (wpAny_pyIter_tuple hl ?_)
  refine ⟨_, [s.heap.objs.size, l], [s.heap.objs.size], _, _, _, numAt xs, rfl, Walks.tuple (A := A.in1) hh _ l (Nat.ne_of_lt hlt) (intItems xs), ⟨⟨_, Heap.get?_push_size _ rfl, rfl, rfl⟩, hl.push _⟩, fun c hc => ?_, (fun _ _ => intItems_at), fun h' tk t' hk => ?_⟩
  · show c < (s.heap.push _).objs.size
    rw [Heap.size_push]
    rcases List.mem_cons.mp hc with r | hc
    · rw [r]; exact Nat.lt_succ_self _
    · rw [List.mem_singleton.mp hc]; exact Nat.lt_succ_of_lt hlt
  · have := h h' tk t' fun b o e => hk b o (fun m => absurd (Heap.lt_size e) (by rw [List.mem_singleton.mp m]; exact Nat.lt_irrefl _)) (Heap.get?_push_of_some _ e)
    have e2 : (intItems xs).size = xs.size := by simp [intItems]
    rw [e2, preSum_eq, List.take_of_length_le (by simp), hn]
    exact this
end
def rSumT (K : PySem.W.Frag) : List V → Hp → VK → Prop := fun vs H Q => ∃ (a : Addr) (ns : List Int), vs = [V.ref a] ∧ SqT K H a (ns.map V.int) ∧ Q (.int ns.sum) H
theorem cr_sumT {X : Cx} {K : PySem.W.Frag} (hK : X.K = K) (hc : X.calm = true) : CallR X (.builtin "sum") (rSumT K) := by
  subst hK
  intro pins s σ H vs us Q I r h
  obtain ⟨a, ns, rfl, hs, q⟩ := h
  obtain ⟨its, rv, hl, _⟩ := I.tuple hs
  rw [Vals.ref1 r]
  exact sum_rawT (I.ok.hd hc) (show s.heap.IsTuple a its.toArray from hl) rv.ints fun h' tk t' hk => ⟨.int _, H, I.kept hk, ⟨_, rfl⟩, q⟩

/-! [elt for t1 in it1 for t2 in it2]: the two walks -/
theorem lc2_it {J : It} {n : Nat} {G : Hp → Prop} {Y : Nat → Hp → V → Hp → Prop} (w : Walk J n G Y) {D : Addr} {H1 : Hp} {Qd : Hp → Prop} {B : (Hp → Prop) → V → Hp → Prop} (Pv : Nat → Hp → Prop) (h0 : Pv 0 (upd H1 D (.lst []))) (hG : ∀ i H, i ≤ n → Pv i H → G H)
    (hs : ∀ i x H H', i < n → Pv i H → Y i H x H' → B (Pv (i + 1)) x H') (hd : ∀ H, Pv n H → Qd H) :
    ∃ W : Nat → Nat → Hp → Prop, (∃ m, W 0 m (upd H1 D (.lst []))) ∧ ∀ i m H, W i m H → (J.stop i H ∧ Qd H) ∨ (J.go i H ∧ ∃ Nx : Hp → Prop, (∀ H', Nx H' → ∃ m', m' < m ∧ W (i + 1) m' H') ∧ ∀ x H', J.yld i H x H' → B Nx x H') := by
  refine ⟨fun i m H => m = n - i ∧ i ≤ n ∧ Pv i H, ⟨n, by simp, Nat.zero_le _, h0⟩, ?_⟩
  rintro i m H ⟨rfl, hi, p⟩
  have q := hG i H hi p
  by_cases hlt : i < n
  · exact .inr ⟨w.goes i H hlt q, Pv (i + 1), fun H' p' => ⟨n - (i + 1), by omega, rfl, hlt, p'⟩, fun x H' y => hs i x H H' hlt p (w.yields i H x H' hlt q y)⟩
  · have e : i = n := by omega
    subst e
    exact .inl ⟨w.stops H q, hd H p⟩
theorem lc2_in {J : It} {n : Nat} {G : Hp → Prop} {Y : Nat → Hp → V → Hp → Prop} (w : Walk J n G Y) {H1 : Hp} {Nx : Hp → Prop} {B : (Hp → Prop) → V → Hp → Prop} (Pv : Nat → Hp → Prop) (h0 : Pv 0 H1) (hG : ∀ i H, i ≤ n → Pv i H → G H)
    (hs : ∀ i x H H', i < n → Pv i H → Y i H x H' → B (Pv (i + 1)) x H') (hd : ∀ H, Pv n H → Nx H) :
    ∃ W : Nat → Nat → Hp → Prop, (∃ m, W 0 m H1) ∧ ∀ j k H, W j k H → (J.stop j H ∧ Nx H) ∨ (J.go j H ∧ ∃ Nx1 : Hp → Prop, (∀ H', Nx1 H' → ∃ k', k' < k ∧ W (j + 1) k' H') ∧ ∀ x H', J.yld j H x H' → B Nx1 x H') := by
  refine ⟨fun i m H => m = n - i ∧ i ≤ n ∧ Pv i H, ⟨n, by simp, Nat.zero_le _, h0⟩, ?_⟩
  rintro i m H ⟨rfl, hi, p⟩
  have q := hG i H hi p
  by_cases hlt : i < n
  · exact .inr ⟨w.goes i H hlt q, Pv (i + 1), fun H' p' => ⟨n - (i + 1), by omega, rfl, hlt, p'⟩, fun x H' y => hs i x H H' hlt p (w.yields i H x H' hlt q y)⟩
  · have e : i = n := by omega
    subst e
    exact .inl ⟨w.stops H q, hd H p⟩
end Sl
/-! zip of two sources, each a list or a tuple -/
namespace Sl
open PySem PySem.Spec PyProof.Rows L2 RZ

/-- an inner iterator of a zip: at its k-th item when st k holds -/
structure Sr (prog : Program) (w : World) (i l : Addr) (items : Array Value) (st : Nat → Heap → Prop) : Prop where
  item : ∀ (A : Around) (E : Value → Shared → Prop) (s : Shared) (k : Nat) (x : Value) (Q : Value → Shared → Prop), st k s.heap → items[k]? = some x → (∀ h', st (k + 1) h' → Heap.SameBut i s.heap h' → Q x { s with heap := h' }) →
    wpAny (model prog w) A (Builtin.SmallTypes.nextOf (.ref i)) Q E s
  stop : ∀ (A : Around) (E : Value → Shared → Prop) (s : Shared) (k : Nat) (Q : Value → Shared → Prop), A.handled = none → st k s.heap → items[k]? = none →
    (∀ h' e, Heap.ExtBut i s.heap h' → (∃ o, h'.get? e = some o ∧ o.cls = .type "StopIteration") → E (.ref e) { s with heap := h' }) → wpAny (model prog w) A (Builtin.SmallTypes.nextOf (.ref i)) Q E s
  at_ : ∀ k h h', st k h → (∀ o, h.get? i = some o → h'.get? i = some o) → (∀ o, h.get? l = some o → h'.get? l = some o) → st k h'
  lt : ∀ k h, st k h → ∃ o, h.get? i = some o ∧ ∀ v, o.data ≠ .cell v
theorem sr_list {prog : Program} {w : World} {i l : Addr} {items : Array Value} (ne : l ≠ i) : Sr prog w i l items (fun k h => h.IsListIter i l k ∧ h.IsList l items) where
  item := fun A E s k x Q st hx hq => wpAny_nextOf_list_item st.1 st.2 hx fun h' a b => hq h' ⟨a, st.2.extBut b.extBut ne⟩ b
  stop := fun A E s k Q hh st hx he => wpAny_nextOf_list_end hh st.1 st.2 hx he
  at_ := fun k h h' st a b => ⟨st.1.at a, st.2.at b⟩
  lt := fun k h st => let ⟨o, e, _, d⟩ := st.1; ⟨o, e, fun v q => by rw [d] at q; cases q⟩
theorem sr_tup {prog : Program} {w : World} {i l : Addr} {items : Array Value} (ne : l ≠ i) : Sr prog w i l items (fun k h => h.IsTupleIter i l k ∧ h.IsTuple l items) where
  item := fun A E s k x Q st hx hq => nextOf_tuple_item st.1 st.2 hx fun h' a b => hq h' ⟨a, st.2.extBut b.extBut ne⟩ b
  stop := fun A E s k Q hh st hx he => nextOf_tuple_end hh st.1 st.2 hx he
  at_ := fun k h h' st a b => ⟨st.1.at a, st.2.at b⟩
  lt := fun k h st => let ⟨o, e, _, d⟩ := st.1; ⟨o, e, fun v q => by rw [d] at q; cases q⟩
section
variable {prog : Program} {w : World} {A : Around} {E : Value → Shared → Prop} {s : Shared} {z TI TO i1 i2 l1 l2 : Addr} {xs ys : Array Value} {S1 S2 : Nat → Heap → Prop}
/-- a zip asked while it holds no pair -/
theorem zipG_next {k : Nat} {a b : Value} {Q : Option Value → Shared → Prop} (hh : A.handled = none) (D : ZipApart z TI TO i1 i2 l1 l2) (R1 : Sr prog w i1 l1 xs S1) (R2 : Sr prog w i2 l2 ys S2)
    (hz : IsZip s.heap z TI TO .none) (hTI : IsPair s.heap TI (.ref i1) (.ref i2)) (hTO : IsPair s.heap TO a b) (h1 : S1 k s.heap) (h2 : S2 k s.heap)
    (hsome : ∀ x y, xs[k]? = some x → ys[k]? = some y → ∀ h', IsZip h' z TI TO (rawInt s.heap.objs.size) → IsPair h' TO x y → S1 (k + 1) h' → S2 (k + 1) h' → IsPair h' s.heap.objs.size x y →
      (∀ c o, c ≠ z → c ≠ TO → c ≠ i1 → c ≠ i2 → s.heap.get? c = some o → h'.get? c = some o) → Q (some (.ref s.heap.objs.size)) { s with heap := h' })
    (hnone : xs[k]? = none ∨ ys[k]? = none → ∀ h', (∀ c o, c ≠ z → c ≠ TO → c ≠ i1 → c ≠ i2 → s.heap.get? c = some o → h'.get? c = some o) → Q none { s with heap := h' }) :
    wpAny (model prog w) A (pyNext (.ref z)) Q E s := by
  have ty : s.TypeIs (.ref z) "zip" := ⟨_, hz, rfl⟩
  have stop : ∀ (h' : Heap) (e : Addr), (xs[k]? = none ∨ ys[k]? = none) → (∀ c o, c ≠ z → c ≠ TO → c ≠ i1 → c ≠ i2 → s.heap.get? c = some o → h'.get? c = some o) → (∃ o, h'.get? e = some o ∧ o.cls = .type "StopIteration") →
      wpAny (model prog w) A (do if ← isInstance (.ref e) (.type "StopIteration") then pure none else throw (.ref e)) Q E { s with heap := h' } := fun h' e hn hk ⟨o, ho, hc⟩ =>
    wpAny_bind (wpAny_isInstance (T := "StopIteration") (b := true) ⟨o, ho, hc⟩ isSubtype_stop (wpAny_pure (hnone hn h' hk)))
  unfold pyNext
  refine wpAny_bind (wpAny_attempt (wpAny_callSpecial?_slot (name := Str.ofString "__next__") ty F.slot_zip_next (wpAny_call_entry F.slot_zip_next ty F.entry_zip_next ?_ (F.args_zip_next_1 _))))
  show wpAny _ _ (field (.ref z) 2 >>= _) _ _ _
  refine wpAny_bind (wpAny_field hz rfl (x := .bool false) rfl ?_)
  show wpAny _ _ (field (.ref z) 3 >>= _) _ _ _
  refine wpAny_bind (wpAny_field hz rfl (x := .ref TI) rfl (wpAny_bind (wpAny_seqItems hTI rfl ?_)))
  show wpAny _ _ (Builtin.SmallTypes.ownedTupleIsFree (.ref z) >>= _) _ _ _
  refine wpAny_bind ?_
  unfold Builtin.SmallTypes.ownedTupleIsFree
  refine wpAny_bind (wpAny_field hz rfl (x := .none) rfl (wpAny_pure ?_))
  simp only [if_true]
  refine wpAny_bind (wpAny_rule (wpAny_bind (wpAny_field hz rfl (x := .ref TO) rfl (wpAny_bind (wpAny_setField_rec hz (by simp) fun g1 z1 e1 => ?_)))))
  replace z1 : IsZip g1 z TI TO .ellipsis := z1
  refine wpAny_bind ?_
  simp only [List.zipIdx_cons, List.zipIdx_nil, List.forIn_cons, List.forIn_nil]
  refine wpAny_bind (wpAny_bind (wpAny_onRaise ?_))
  show wpAny _ _ (Builtin.SmallTypes.nextOf (.ref i1) >>= _) _ _ _
  have p1 : S1 k g1 := R1.at_ _ _ _ h1 (fun o e => e1.extBut _ _ D.i1z e) fun o e => e1.extBut _ _ D.l1z e
  cases hx : xs[k]? with
  | none =>
    refine wpAny_bind (R1.stop _ _ _ _ _ hh p1 hx fun g2 e k2 ⟨oe, hoe, hce⟩ => ?_)
    have z2 : IsZip g2 z TI TO .ellipsis := k2 _ _ D.i1z.symm z1
    have hez : e ≠ z := fun x => by subst x; rw [z2] at hoe; cases hoe; simp at hce
    refine wpAny_setField_rec z2 (by simp) fun g3 _ e3 => ?_
    exact stop g3 e (.inl hx) (fun c o c1 _ c3 _ y => e3.extBut _ _ c1 (k2 _ _ c3 (e1.extBut _ _ c1 y))) ⟨oe, e3.extBut _ _ hez hoe, hce⟩
  | some x =>
    refine wpAny_bind (R1.item _ _ _ _ _ _ p1 hx fun g2 p2 e2 => wpAny_pure ?_)
    have t2 : IsPair g2 TO a b := e2.extBut _ _ D.TOi1 (e1.extBut _ _ D.TOz hTO)
    refine wpAny_bind (wpAny_seqItems t2 rfl (wpAny_bind (wpAny_updateSeq_pair t2 fun g3 t3 e3 => ?_)))
    replace t3 : IsPair g3 TO x b := t3
    refine wpAny_bind (wpAny_letGo (wpAny_pure (wpAny_bind (wpAny_bind (wpAny_onRaise ?_)))))
    show wpAny _ _ (Builtin.SmallTypes.nextOf (.ref i2) >>= _) _ _ _
    have up3 : ∀ c o, c ≠ z → c ≠ TO → c ≠ i1 → s.heap.get? c = some o → g3.get? c = some o := fun c o c1 c2 c3 y => e3.extBut _ _ c2 (e2.extBut _ _ c3 (e1.extBut _ _ c1 y))
    have r3 : S2 k g3 := R2.at_ _ _ _ h2 (fun o e => up3 _ _ D.i2z D.TOi2.symm D.i12.symm e) fun o e => up3 _ _ D.l2z D.l2TO D.l2i1 e
    have p3 : S1 (k + 1) g3 := R1.at_ _ _ _ p2 (fun o e => e3.extBut _ _ D.TOi1.symm e) fun o e => e3.extBut _ _ D.l1TO e
    have z3 : IsZip g3 z TI TO .ellipsis := e3.extBut _ _ D.TOz.symm (e2.extBut _ _ D.i1z.symm z1)
    cases hy : ys[k]? with
    | none =>
      refine wpAny_bind (R2.stop _ _ _ _ _ hh r3 hy fun g4 e k4 ⟨oe, hoe, hce⟩ => ?_)
      have z4 : IsZip g4 z TI TO .ellipsis := k4 _ _ D.i2z.symm z3
      have hez : e ≠ z := fun x => by subst x; rw [z4] at hoe; cases hoe; simp at hce
      refine wpAny_setField_rec z4 (by simp) fun g5 _ e5 => ?_
      exact stop g5 e (.inr hy) (fun c o c1 c2 c3 c4 y => e5.extBut _ _ c1 (k4 _ _ c4 (up3 c o c1 c2 c3 y))) ⟨oe, e5.extBut _ _ hez hoe, hce⟩
    | some y =>
      refine wpAny_bind (R2.item _ _ _ _ _ _ r3 hy fun g4 r4 e4 => wpAny_pure ?_)
      have t4 : IsPair g4 TO x b := e4.extBut _ _ D.TOi2 t3
      refine wpAny_bind (wpAny_seqItems t4 rfl (wpAny_bind (wpAny_updateSeq_pair t4 fun g5 t5 e5 => ?_)))
      replace t5 : IsPair g5 TO x y := t5
      refine wpAny_bind (wpAny_letGo (wpAny_pure (wpAny_pure ?_)))
      refine wpAny_bind (wpAny_seqItems t5 rfl (wpAny_bind (wpAny_newTuple ?_)))
      have sz : g5.objs.size = s.heap.objs.size := by rw [e5.1, e4.1, e3.1, e2.1, e1.1]
      have z5 : IsZip g5 z TI TO .ellipsis := e5.extBut _ _ D.TOz.symm (e4.extBut _ _ D.i2z.symm z3)
      have up5 : ∀ c o, c ≠ z → c ≠ TO → c ≠ i1 → c ≠ i2 → s.heap.get? c = some o → g5.get? c = some o := fun c o c1 c2 c3 c4 v => e5.extBut _ _ c2 (e4.extBut _ _ c4 (up3 c o c1 c2 c3 v))
      have p5 : S1 (k + 1) g5 := R1.at_ _ _ _ p3 (fun o e => e5.extBut _ _ D.TOi1.symm (e4.extBut _ _ D.i12 e)) fun o e => e5.extBut _ _ D.l1TO (e4.extBut _ _ D.l1i2 e)
      have r5 : S2 (k + 1) g5 := R2.at_ _ _ _ r4 (fun o e => e5.extBut _ _ D.TOi2.symm e) fun o e => e5.extBut _ _ D.l2TO e
      have zlt : z < g5.objs.size := Heap.lt_size z5
      show wpAny _ _ (Builtin.SmallTypes.ownedTupleHandOut (.ref z) (.ref g5.objs.size) >>= _) _ _ _
      refine wpAny_bind ?_
      unfold Builtin.SmallTypes.ownedTupleHandOut
      have z6 : IsZip (g5.push { cls := .type "tuple", data := .seq #[x, y] }) z TI TO .ellipsis := Heap.get?_push_of_some _ z5
      refine wpAny_bind (wpAny_setField_rec z6 (by simp) fun g7 z7 e7 => ?_)
      replace z7 : IsZip g7 z TI TO (rawInt g5.objs.size) := z7
      refine wpAny_setField_rec z7 (by simp) fun g8 z8 e8 => ?_
      replace z8 : IsZip g8 z TI TO (rawInt g5.objs.size) := z8
      have up : ∀ c o, c ≠ z → g5.get? c = some o → g8.get? c = some o := fun c o c1 e => e8.extBut _ _ c1 (e7.extBut _ _ c1 (Heap.get?_push_of_some _ e))
      have T8 : IsPair g8 g5.objs.size x y := e8.extBut _ _ (Nat.ne_of_gt zlt) (e7.extBut _ _ (Nat.ne_of_gt zlt) (Heap.get?_push_size _ rfl))
      rw [sz] at z8 T8
      refine wpAny_pure ⟨_, rfl, wpAny_pure ?_⟩
      show Q (some (.ref g5.objs.size)) _
      rw [sz]
      exact hsome x y hx hy g8 z8 (up _ _ D.TOz t5) (R1.at_ _ _ _ p5 (fun o e => up _ o D.i1z e) fun o e => up _ o D.l1z e) (R2.at_ _ _ _ r5 (fun o e => up _ o D.i2z e) fun o e => up _ o D.l2z e) T8 fun c o c1 c2 c3 c4 e => up c o c1 (up5 c o c1 c2 c3 c4 e)
end

/-! zip(list, tuple) made -/
abbrev zLT1 (h : Heap) (l1 : Addr) : Heap := h.push { cls := .type "list_iterator", data := .fields #[.ref l1, .int 0 0] }
abbrev zLT2 (h : Heap) (l1 l2 : Addr) : Heap := (zLT1 h l1).push { cls := .type "tuple_iterator", data := .fields #[.ref l2, .int 0 0] }
abbrev zLT3 (h : Heap) (l1 l2 : Addr) : Heap := (zLT2 h l1 l2).push { cls := .type "tuple", data := .seq #[.ref h.objs.size, .ref (zLT1 h l1).objs.size] }
abbrev zLT4 (h : Heap) (l1 l2 : Addr) : Heap := (zLT3 h l1 l2).push { cls := .type "tuple", data := .seq #[.none, .none] }
abbrev zLT5 (h : Heap) (l1 l2 : Addr) : Heap := (zLT4 h l1 l2).push { cls := .type "zip", data := .fields #[.none, .bool false, .bool false, .ref (zLT2 h l1 l2).objs.size, .ref (zLT3 h l1 l2).objs.size] }
theorem meets_zLT (l1 l2 : Addr) (xs ys : Array Value) :
    Meets (Builtin.«zip.__new__» ⟨[.type "zip", .ref l1, .ref l2], []⟩) (fun _ R s => s.heap.IsList l1 xs ∧ s.heap.IsTuple l2 ys ∧
      R (.ok (.ret (.ref (zLT4 s.heap l1 l2).objs.size))) { s with heap := zLT5 s.heap l1 l2 }) :=
  .of_wp fun prog w A R s h => by
    obtain ⟨hp, g, d, tk, os⟩ := s; obtain ⟨hl1, hl2, h⟩ := h
    have hsub := sub_zip
    have hL1 : Heap.IsList (Shared.heap ⟨hp, g, d, tk, os⟩) l1 xs := hl1
    have hL2 : Heap.IsTuple (Shared.heap ⟨hp.push { cls := .type "list_iterator", data := .fields #[.ref l1, .int 0 0] }, g, d, tk, os⟩) l2 ys := Heap.IsTuple.push hl2 _
    wp_walk using wpAny_pyIter_list hL1, wpAny_pyIter_tuple hL2
    exact ⟨_, rfl, h⟩
theorem call_zipLT {prog : Program} {w : World} {A : Around} {E : Value → Shared → Prop} {s : Shared} {l1 l2 : Addr} {xs ys : Array Value} {Q : Value → Shared → Prop} (hl1 : s.heap.IsList l1 xs) (hl2 : s.heap.IsTuple l2 ys)
    (h : ∀ h', IsZip h' (s.heap.objs.size + 4) (s.heap.objs.size + 2) (s.heap.objs.size + 3) .none → IsPair h' (s.heap.objs.size + 2) (.ref s.heap.objs.size) (.ref (s.heap.objs.size + 1)) →
      IsPair h' (s.heap.objs.size + 3) .none .none → h'.IsListIter s.heap.objs.size l1 0 → h'.IsTupleIter (s.heap.objs.size + 1) l2 0 → (∀ c o, s.heap.get? c = some o → h'.get? c = some o) → Q (.ref (s.heap.objs.size + 4)) { s with heap := h' }) :
    wpAny (model prog w) A (call (.type "zip") [.ref l1, .ref l2]) Q E s := by
  refine callType_new F.called_zip (by decide) (F.typeCall_zip_2 _ _) (F.newCall_zip_2 _ _) (fun obj => F.args_object_init_3 obj _ _) F.entry_zip_new (meets_zLT l1 l2 xs ys) ⟨hl1, hl2, ?_⟩
  have z1 : (zLT1 s.heap l1).objs.size = s.heap.objs.size + 1 := Heap.size_push ..
  have z2 : (zLT2 s.heap l1 l2).objs.size = s.heap.objs.size + 2 := by rw [Heap.size_push, z1]
  have z3 : (zLT3 s.heap l1 l2).objs.size = s.heap.objs.size + 3 := by rw [Heap.size_push, z2]
  have z4 : (zLT4 s.heap l1 l2).objs.size = s.heap.objs.size + 4 := by rw [Heap.size_push, z3]
  have up : ∀ {c o}, (zLT1 s.heap l1).get? c = some o → (zLT5 s.heap l1 l2).get? c = some o := fun x => Heap.get?_push_of_some _ (Heap.get?_push_of_some _ (Heap.get?_push_of_some _ (Heap.get?_push_of_some _ x)))
  have g5 : (zLT5 s.heap l1 l2).get? (zLT4 s.heap l1 l2).objs.size = some _ := Heap.get?_push_size _ rfl
  have g4 : (zLT5 s.heap l1 l2).get? (zLT3 s.heap l1 l2).objs.size = some _ := Heap.get?_push_of_some _ (Heap.get?_push_size _ rfl)
  have g3 : (zLT5 s.heap l1 l2).get? (zLT2 s.heap l1 l2).objs.size = some _ := Heap.get?_push_of_some _ (Heap.get?_push_of_some _ (Heap.get?_push_size _ rfl))
  have g2 : (zLT5 s.heap l1 l2).get? (zLT1 s.heap l1).objs.size = some _ := Heap.get?_push_of_some _ (Heap.get?_push_of_some _ (Heap.get?_push_of_some _ (Heap.get?_push_size _ rfl)))
  have g1 : (zLT5 s.heap l1 l2).get? s.heap.objs.size = some _ := up (Heap.get?_push_size _ rfl)
  show _ ∧ _
  rw [z2, z3, z4] at g5
  rw [z1, z2] at g3
  rw [z3] at g4
  rw [z1] at g2
  rw [z4]
  exact ⟨⟨_, g5, rfl⟩, h _ g5 g3 g4 ⟨_, g1, rfl, rfl⟩ ⟨_, g2, rfl, rfl⟩ fun c o x => up (Heap.get?_push_of_some _ x)⟩

/-! the walk over zip(list, tuple) -/
def ItzLT (K : PySem.W.Frag) (a b : Addr) : It :=
  ⟨fun i H => ∃ (xs ys : List V) (x y : V), SqL K H a xs ∧ SqT K H b ys ∧ xs[i]? = some x ∧ ys[i]? = some y,
    fun i H v H' => ∃ T x y, v = .ref T ∧ H T = none ∧ H' = upd H T (.tup [x, y]) ∧ (∀ xs, SqL K H a xs → xs[i]? = some x) ∧ ∀ ys, SqT K H b ys → ys[i]? = some y,
    fun i H => ∃ xs ys : List V, SqL K H a xs ∧ SqT K H b ys ∧ (xs.length ≤ i ∨ ys.length ≤ i)⟩
theorem turn_zipLT {P : Program} {w : World} {K : PySem.W.Frag} {elts : List Expr} {kk : Nat} {tpos : Pos} {a b z TI TO i1 i2 : Addr} (D : ZipApart z TI TO i1 i2 a b) :
    Turn P w K (.Tuple elts kk tpos) (ItzLT K a b) [z, TI, TO, i1, i2] z (fun i h => IsZip h z TI TO .none ∧ IsPair h TI (.ref i1) (.ref i2) ∧ (∃ x y, IsPair h TO x y) ∧ h.IsListIter i1 a i ∧ h.IsTupleIter i2 b i) where
  mem := by simp
  obj := fun i h ⟨hz, hTI, ⟨x, y, hTO⟩, ⟨o1, e1, _, d1⟩, ⟨o2, e2, _, d2⟩⟩ c hc => by
    have e' : c = z ∨ c = TI ∨ c = TO ∨ c = i1 ∨ c = i2 := by simpa using hc
    rcases e' with q | q | q | q | q <;> subst q
    · exact ⟨_, hz, fun v q => nomatch q⟩
    · exact ⟨_, hTI, fun v q => nomatch q⟩
    · exact ⟨_, hTO, fun v q => nomatch q⟩
    · exact ⟨o1, e1, fun v q => by rw [d1] at q; cases q⟩
    · exact ⟨o2, e2, fun v q => by rw [d2] at q; cases q⟩
  keep := fun i h h' ⟨hz, hTI, ⟨x, y, hTO⟩, h1, h2⟩ k => ⟨k z (by simp) _ hz, k TI (by simp) _ hTI, ⟨x, y, k TO (by simp) _ hTO⟩, h1.at fun o q => k i1 (by simp) o q, h2.at fun o q => k i2 (by simp) o q⟩
  item := by
    intro X hP hw hK hc i pins s σ H E I hf ⟨hz, hTI, ⟨x0, y0, hTO⟩, h1, h2⟩ ⟨xs, ys, x, y, hqx, hqy, hx, hy⟩
    subst hP hw hK
    obtain ⟨its, rv, p, _⟩ := I.list hqx
    obtain ⟨its2, rv2, p2, _⟩ := I.tuple hqy
    obtain ⟨u, hu, ru⟩ := rv.get hx
    obtain ⟨u2, hu2, ru2⟩ := rv2.get hy
    have hu' : its.toArray[i]? = some u := by simpa using hu
    have hu2' : its2.toArray[i]? = some u2 := by simpa using hu2
    have hzl : z < s.heap.objs.size := Heap.lt_size hz
    have p2' : s.heap.IsTuple b its2.toArray := p2
    refine zipG_next (I.ok.hd hc) D (sr_list D.l1i1) (sr_tup D.l2i2) hz hTI hTO ⟨h1, p.isList⟩ ⟨h2, p2'⟩ (fun v v2 ev ev2 h' z' TO' h1' h2' hT hk => ?_) fun hn => by (rw [hu', hu2'] at hn; rcases hn with q | q <;> cases q)
    rw [hu'] at ev
    rw [hu2'] at ev2
    cases ev
    cases ev2
    refine ⟨_, rfl, wpAny_letOwnedTupleGo_zip (s := { s with heap := h' }) z' fun h'' z'' sb => ?_⟩
    have hT2 : h''.get? s.heap.objs.size = some { cls := .type "tuple", data := .seq #[u, u2] } := (sb.2 _ (Nat.ne_of_gt hzl)).trans hT
    have new : ObjOk X.prog X.w (upd H s.heap.objs.size (.tup [x, y])) h'' s.heap.objs.size (.tup [x, y]) :=
      ⟨by show 2 ≤ sizeLine; decide, [u, u2], .cons ru (.cons ru2 .nil), ⟨_, hT2, rfl, _, rfl⟩⟩
    have I1 : Inv X pins σ (upd H s.heap.objs.size (.tup [x, y])) { s with heap := h'' } :=
      I.turnedNew (t' := s.toks) (ch := [z, TI, TO, i1, i2]) (fun c o hb q => (sb.2 c (fun q' => hb (by simp [q']))).trans (hk c o (fun q' => hb (by simp [q'])) (fun q' => hb (by simp [q'])) (fun q' => hb (by simp [q'])) (fun q' => hb (by simp [q'])) q)) hf (Nat.le_refl _) new
    refine ⟨.ref s.heap.objs.size, _, I1, rfl, ⟨_, x, y, rfl, I.hok.fresh (Nat.le_refl _), rfl, fun l hl => by rw [I.list_inj hl hqx]; exact hx, fun l hl => by rw [I.tuple_inj hl hqy]; exact hy⟩, ⟨z'', ?_, ⟨u, u2, ?_⟩, ?_, ?_⟩, fun c hcm => ?_⟩
    · exact (sb.2 _ D.TIz).trans (hk _ _ D.TIz D.TITO D.TIi1 D.TIi2 hTI)
    · exact (sb.2 _ D.TOz).trans TO'
    · exact h1'.1.at fun o q => (sb.2 _ D.i1z).trans q
    · exact h2'.1.at fun o q => (sb.2 _ D.i2z).trans q
    · have hlt : c < s.heap.objs.size := by
        have e' : c = z ∨ c = TI ∨ c = TO ∨ c = i1 ∨ c = i2 := by simpa using hcm
        rcases e' with q | q | q | q | q
        · rw [q]; exact hzl
        · rw [q]; exact Heap.lt_size hTI
        · rw [q]; exact Heap.lt_size hTO
        · rw [q]; obtain ⟨_, e1, _⟩ := h1; exact Heap.lt_size e1
        · rw [q]; obtain ⟨_, e2, _⟩ := h2; exact Heap.lt_size e2
      rw [upd_ne (Nat.ne_of_lt hlt)]
      exact (hf c hcm).1
  done := by
    intro X hP hw hK hc i pins s σ H E I hf ⟨hz, hTI, ⟨x0, y0, hTO⟩, h1, h2⟩ ⟨xs, ys, hqx, hqy, hend⟩
    subst hP hw hK
    obtain ⟨its, rv, p, _⟩ := I.list hqx
    obtain ⟨its2, rv2, p2, _⟩ := I.tuple hqy
    have l1 := rv.length
    have l2 := rv2.length
    have p2' : s.heap.IsTuple b its2.toArray := p2
    have he : its.toArray[i]? = none ∨ its2.toArray[i]? = none := by
      rcases hend with q | q
      · exact .inl (by simp; omega)
      · exact .inr (by simp; omega)
    refine zipG_next (I.ok.hd hc) D (sr_list D.l1i1) (sr_tup D.l2i2) hz hTI hTO ⟨h1, p.isList⟩ ⟨h2, p2'⟩ (fun v v2 ev ev2 => ?_) fun _ h' hk => ⟨rfl, I.turnedL (t' := s.toks) (ch := [z, TI, TO, i1, i2]) (fun c o hb q =>
      hk c o (fun q' => hb (by simp [q'])) (fun q' => hb (by simp [q'])) (fun q' => hb (by simp [q'])) (fun q' => hb (by simp [q'])) q) hf⟩
    rw [ev, ev2] at he
    rcases he with q | q <;> cases q
  self := fun A i s Q E st h => wpAny_pyIter_zip st.1 h
def iZipLT (K : PySem.W.Frag) (ta : TA) : TI := fun σ H R => ta σ H fun vs H1 => ∃ a b xs ys, vs = [.ref a, .ref b] ∧ SqL K H1 a xs ∧ SqT K H1 b ys ∧ R (ItzLT K a b) H1
theorem pi_zipLT {X : Cx} {K : PySem.W.Frag} {e e2 : Expr} {ta : TA} {p pos tpos : Pos} {elts : List Expr} {kk : Nat} (hK : X.K = K) (hg : Gl X "zip") (hm : X.mg "zip" = none) (ha : PA X [e, e2] ta)
    (hs : starEach [e, e2] X.env = (false, eval e X.env) :: starEach [e2] X.env := by rfl) (hpl : (backTo pos (starEach [e2] X.env)).any (·.1) = false := by rfl) :
    PI X (.Tuple elts kk tpos) (.Call (.Name "zip" p) [e, e2] [] pos) (iZipLT K ta) := by
  subst hK
  refine ⟨fun pins s σ H R I h => ?_⟩
  refine Call_ (ld_blt I hg hm PyProof.Rows.boot_zip (PyProof.Rows.callWith_type1 (thn (ha.run pos pins s σ H _ I h) fun us s1 ⟨vs, H1, I1, r1, q1⟩ => ?_) hs hpl))
  obtain ⟨a, b, xs, ys, ex, hqx, hqy, q⟩ := q1
  subst ex
  cases r1 with
  | cons r rr =>
    cases rr with
    | cons r' rr =>
      cases rr
      cases r
      cases r'
      obtain ⟨its, rv, p1, _⟩ := I1.list hqx
      obtain ⟨its2, rv2, p2, _⟩ := I1.tuple hqy
      obtain ⟨o2, ho2, _⟩ := id p2
      have p2' : s1.heap.IsTuple b its2.toArray := p2
      refine call_zipLT p1.isList p2' fun h' hz hTI hTO h1 h2 hk => wpAny_pyIter_zip hz ?_
      have I2 : Inv X pins σ H1 { s1 with heap := h' } := I1.kept (t' := s1.toks) hk
      refine ⟨s1.heap.objs.size + 4, [s1.heap.objs.size + 4, s1.heap.objs.size + 2, s1.heap.objs.size + 3, s1.heap.objs.size, s1.heap.objs.size + 1], _, _, H1, rfl, I2, turn_zipLT (PySem.W.ktu_apart s1.heap.objs.size a b p1.lt (Heap.lt_size ho2)), ⟨hz, hTI, ⟨_, _, hTO⟩, h1, h2⟩, fun c hcm => ?_, q⟩
      have hle : s1.heap.objs.size ≤ c := by
        have e' : c = s1.heap.objs.size + 4 ∨ c = s1.heap.objs.size + 2 ∨ c = s1.heap.objs.size + 3 ∨ c = s1.heap.objs.size ∨ c = s1.heap.objs.size + 1 := by simpa using hcm
        rcases e' with z | z | z | z | z <;> rw [z]
        · exact Nat.le_add_right _ _
        · exact Nat.le_add_right _ _
        · exact Nat.le_add_right _ _
        · exact Nat.le_refl _
        · exact Nat.le_add_right _ _
      exact I1.fpOk hle (I1.hok.fresh hle)
def YZip (xs ys : List V) : Nat → Hp → V → Hp → Prop := fun i H v H' => ∃ T x y, v = .ref T ∧ H T = none ∧ H' = upd H T (.tup [x, y]) ∧ xs[i]? = some x ∧ ys[i]? = some y
theorem walk_zipLT {K : PySem.W.Frag} {a b : Addr} {xs ys : List V} (hl : xs.length = ys.length) : Walk (ItzLT K a b) xs.length (fun H => SqL K H a xs ∧ SqT K H b ys) (YZip xs ys) :=
  ⟨fun i _ hi q => ⟨xs, ys, xs[i], ys[i]'(by omega), q.1, q.2, by simp [hi], by simp [show i < ys.length by omega]⟩, fun _ q => ⟨xs, ys, q.1, q.2, .inl (Nat.le_refl _)⟩, fun _ _ _ _ _ q ⟨T, x, y, e1, e2, e3, e4, e5⟩ => ⟨T, x, y, e1, e2, e3, e4 xs q.1, e5 ys q.2⟩⟩
theorem walk_zipTT {K : PySem.W.Frag} {a b : Addr} {xs ys : List V} (hl : xs.length = ys.length) : Walk (ItzT K a b) xs.length (fun H => SqT K H a xs ∧ SqT K H b ys) (YZip xs ys) :=
  ⟨fun i _ hi q => ⟨xs, ys, xs[i], ys[i]'(by omega), q.1, q.2, by simp [hi], by simp [show i < ys.length by omega]⟩, fun _ q => ⟨xs, ys, q.1, q.2, .inl (Nat.le_refl _)⟩, fun _ _ _ _ _ q ⟨T, x, y, e1, e2, e3, e4, e5⟩ => ⟨T, x, y, e1, e2, e3, e4 xs q.1, e5 ys q.2⟩⟩
end Sl
/-! tuple * int for 0 and 1 too -/
namespace Sl
open PySem PySem.Spec PyProof.Rows L2
theorem tuple_mul0 (l : Addr) (items : Array Value) (n : Nat) (dd : Option Addr) (sl : Array (Option Value)) (x : Int) (u : Tok) (c0 : (decide (x < -(2 ^ 63)) || decide (x ≥ 2 ^ 63)) = false) (c1 : (items.isEmpty || x == 1) = false) (c2 : (decide (x ≤ 0) || items.isEmpty) = true) :
    Meets (Builtin.«tuple.__mul__» ⟨[.ref l, .int x u], []⟩) (fun _ R s => s.heap.get? l = some { cls := .type "tuple", dict := dd, data := .seq items n, slots := sl } ∧
      R (.ok (.ret (Value.ref s.heap.objs.size))) { s with heap := s.heap.push { cls := Value.type "tuple", data := Data.seq #[] }, toks := s.toks }) :=
  .of_wp fun prog w A R s h => by
    obtain ⟨hp, g, d, tk, os⟩ := s
    obtain ⟨hl, h⟩ := h
    have f1 := AutoSeq1.idx_int
    wp_walk using wpAny_loadPart' hl
    repeat (first
      | (refine wpAny_ite_false (decide_eq_false (by rw [c0]; exact Bool.false_ne_true)) ?_; wp_walk using wpAny_loadPart' hl)
      | (refine wpAny_ite_false (decide_eq_false (by rw [c1]; exact Bool.false_ne_true)) ?_; wp_walk using wpAny_loadPart' hl)
      | (refine wpAny_ite_true (decide_eq_true c2) ?_; wp_walk using wpAny_loadPart' hl))
    exact ⟨_, rfl, h⟩
theorem tuple_mul1 (l : Addr) (items : Array Value) (n : Nat) (dd : Option Addr) (sl : Array (Option Value)) (x : Int) (u : Tok) (c0 : (decide (x < -(2 ^ 63)) || decide (x ≥ 2 ^ 63)) = false) (c1 : (items.isEmpty || x == 1) = true) :
    Meets (Builtin.«tuple.__mul__» ⟨[.ref l, .int x u], []⟩) (fun _ R s => s.heap.get? l = some { cls := .type "tuple", dict := dd, data := .seq items n, slots := sl } ∧
      R (.ok (.ret (Value.ref l))) s) :=
  .of_wp fun prog w A R s h => by
    obtain ⟨hp, g, d, tk, os⟩ := s
    obtain ⟨hl, h⟩ := h
    have f1 := AutoSeq1.idx_int
    wp_walk using wpAny_loadPart' hl
    repeat (first
      | (refine wpAny_ite_false (decide_eq_false (by rw [c0]; exact Bool.false_ne_true)) ?_; wp_walk using wpAny_loadPart' hl)
      | (refine wpAny_ite_true (decide_eq_true c1) ?_; wp_walk using wpAny_loadPart' hl))
    exact ⟨_, rfl, h⟩
def rRepT2 (K : PySem.W.Frag) : R2 := fun x y H Q => ∃ l k xs, x = .ref l ∧ y = .int k ∧ SqT K H l xs ∧ xs ≠ [] ∧ 0 ≤ k ∧ k ≤ 1000 ∧ xs.length ≤ 1000 ∧ (k = 1 → Q (.ref l) H) ∧ (k ≠ 1 → ∀ p, H p = none → Q (.ref p) (upd H p (.tup (List.replicate k.toNat xs).flatten)))
theorem op_repT2 {X : Cx} {K : PySem.W.Frag} (hK : X.K = K) : OpR X (binaryOp .Mult) (rRepT2 K) := by
  subst hK
  intro pins s σ H x y v u Q I rx ry h
  obtain ⟨l, k, xs, rfl, rfl, hT, hne, h1, h2, hz, q1, q2⟩ := h
  by_cases k2 : 2 ≤ k
  · exact op_repT pins s σ H _ _ v u Q I rx ry ⟨l, k, xs, rfl, rfl, hT, hne, k2, h2, hz, q2 (by omega)⟩
  cases rx
  obtain ⟨t, rfl⟩ := ry
  obtain ⟨its, r, ⟨⟨cls, dd, data, sl⟩, ho, hc, n, hd⟩, hs⟩ := I.tuple hT
  simp only at hc hd
  subst hc hd
  have hle : its.length = xs.length := r.length.symm
  have hn : its ≠ [] := fun e => hne (by
    rw [e] at hle
    exact List.eq_nil_of_length_eq_zero hle.symm)
  have hi : its.toArray.isEmpty = false := by
    cases its with
    | nil => exact absurd rfl hn
    | cons a b => rfl
  have c0 : (decide (k < -(2 ^ 63)) || decide (k ≥ 2 ^ 63)) = false := by
    rw [decide_eq_false (by omega), decide_eq_false (by omega)] <;> rfl
  by_cases k1 : k = 1
  · have c1 : (its.toArray.isEmpty || k == 1) = true := by rw [k1, hi]; rfl
    refine wpAny_binaryOp_repeat_ref (T := "tuple") (U := "int") (by decide) ⟨_, ho, rfl⟩ (fun s' => typeIs_int s' k t) noFill_tuple_mul F.fills_int_mul F.slot_int_rmul repeat_tuple F.slot_int_index.lookup
      (call_meets F.slot_int_rmul (typeIs_int s k t) F.entry_int_rmul (F.args_int_rmul_2 _ _) (int_rmul_tuple k t l its.toArray n dd sl)
        ⟨ho, rfl, ⟨_, ho, rfl⟩, call_meets F.slot_tuple_mul ⟨_, ho, rfl⟩ F.entry_tuple_mul (F.args_tuple_mul_2 _ _) (tuple_mul1 l its.toArray n dd sl k t c0 c1) ⟨ho, ?_⟩⟩)
    exact ⟨.ref l, H, I, rfl, q1 k1⟩
  · have c1 : (its.toArray.isEmpty || k == 1) = false := by
      rw [hi, Bool.false_or]
      exact beq_eq_false_iff_ne.mpr (by omega)
    have c2 : (decide (k ≤ 0) || its.toArray.isEmpty) = true := by rw [decide_eq_true (by omega)]; rfl
    refine wpAny_binaryOp_repeat_ref (T := "tuple") (U := "int") (by decide) ⟨_, ho, rfl⟩ (fun s' => typeIs_int s' k t) noFill_tuple_mul F.fills_int_mul F.slot_int_rmul repeat_tuple F.slot_int_index.lookup
      (call_meets F.slot_int_rmul (typeIs_int s k t) F.entry_int_rmul (F.args_int_rmul_2 _ _) (int_rmul_tuple k t l its.toArray n dd sl)
        ⟨ho, rfl, ⟨_, ho, rfl⟩, call_meets F.slot_tuple_mul ⟨_, ho, rfl⟩ F.entry_tuple_mul (F.args_tuple_mul_2 _ _) (tuple_mul0 l its.toArray n dd sl k t c0 c1 c2) ⟨ho, ?_⟩⟩)
    have e : (List.replicate k.toNat xs).flatten = [] := by rw [show k = 0 by omega]; rfl
    have q3 := q2 k1
    rw [e] at q3
    refine ⟨.ref s.heap.objs.size, _, I.laid (t' := s.toks) (o := .tup []) (fun b ob q => Heap.get?_push_of_some _ q) (Nat.le_refl _) ?_, rfl, q3 _ (I.hok.fresh (Nat.le_refl _))⟩
    exact ⟨Nat.zero_le _, _, .nil, IsTup.new _ _⟩
end Sl
/-! a def that is called within an except suite, whatever is handled there -/
namespace Sl
open PySem PySem.Spec PyProof.Rows L2
structure FnW (P : Program) (w : World) (K : PySem.W.Frag) (mg : Str → Option Value) (base : Heap) (k : Nat) (f : Addr) (fd : FuncData) (ps : List Str) (sp : Sp) : Prop where
  args : ∀ vs H Q E, sp vs H Q E → vs.length = ps.length
  go : ∀ (A : Around) (fr : List Env) (s : Shared) (H : Hp) (ar : Args) (us : List Value) (vs : List V) (Q : VK) (E : XK), L2H.RoomH k A → Env0 P w K mg base A fr s H → BindsTo s fd ar (ps.zip us) → Vals vs us → sp vs H Q E → codeAny (model P w) A (.call (.ref f) ar) (CR CX0 fr P w H s Q E) s
def cxW (P : Program) (w : World) (K : PySem.W.Frag) (mg : Str → Option Value) (base : Heap) (N : List Str) (qual : Str) (scope : Scope) (f : Addr) (cd : Value) (A : Around) (fr : List Env) (s : Shared) (H : Hp) (E : XK) : Cx :=
  { cxOf CX0 P w K mg base N qual scope f cd A fr s H E with calm := false }
section
variable {P : Program} {w : World} {K : PySem.W.Frag} {mg : Str → Option Value} {base : Heap}
theorem inv_startW {N ps : List Str} {qual : Str} {scope : Scope} {f : Addr} {cd : Value} {A : Around} {fr : List Env} {s s1 : Shared} {H : Hp} {E : XK} {us : List Value} {vs : List V} (S : FnScope N ps scope) (e0 : Env0 P w K mg base A fr s H) (hl : vs.length = ps.length) (r : Vals vs us)
    (xc : InCallC s s.heap.objs.size (bindL (envOfC qual scope s.heap.objs.size f cd).kindOf (ps.zip us) fun _ => none) (cellsFrom (s.heap.objs.size + 1) scope.names []) (bindC (envOfC qual scope s.heap.objs.size f cd).kindOf (ps.zip us) fun _ => none) s1) :
    Inv (cxW P w K mg base N qual scope f cd A fr s H E) [] (L2.start N vs) H s1 := by
  have e1 : Env0 P w K mg base { A with handled := none } fr s H := ⟨e0.frames, e0.mod, e0.bs, e0.bsz, e0.funs, e0.frf, e0.hok, e0.bare⟩
  have I := inv_start (CX := CX0) (E := E) S (A := { A with handled := none }) rfl e1 hl r xc
  have o := I.ok
  exact ⟨⟨o.mod, o.kind, o.glob, o.blt, o.above, o.inj, o.has, o.cab, fun z => Bool.noConfusion (show false = true from z), Around.frames_deeper e0.frames, .inr ⟨rfl, rfl⟩, o.exf, o.bs, o.bsz, o.noex, o.exfs, o.funs, o.frf⟩, I.os, I.bare, I.base, I.loc, I.cell, I.free, I.freeC, I.pin, I.hok, I.len⟩
theorem okW {x qual : Str} {st : Stmt} {f : Addr} {fd : FuncData} {N ps : List Str} {k : Nat} {sp : Sp} (F : Fun K x qual st f fd) (S : FnScope N ps (defScope st)) (args : ∀ vs H Q E, sp vs H Q E → vs.length = ps.length)
    (body : ∀ (cd : Value) (A : Around) (fr : List Env) (s : Shared) (H : Hp) (vs : List V) (Q : VK) (E : XK), L2H.RoomH k (A.deeper (envOfC qual (defScope st) s.heap.objs.size f cd)) → sp vs H Q E →
      ∃ t, PSs (cxW P w K mg base N qual (defScope st) f cd A fr s H E).nox (defBody st) t ∧ t { nx := fun _ H' => Q .non H', rt := Q } (L2.start N vs) H) : FnW P w K mg base (k + 1) f fd ps sp := by
  obtain ⟨oc, od, kV, doc, pm, an, cd, ct, osl, rfl, lk, hcd⟩ := F.ex
  refine ⟨args, fun A fr s H ar us vs Q E room e0 bt rv hs => ?_⟩
  have kx : K.In s.heap := e0.mod.kin.keeps fun b o e => (e0.bs b o e).1
  refine codeAny_call_function room.depth (kx _ _ lk) rfl S.co S.gen rfl (PySem.W.codeRec_of kx hcd) (bt _ _ _ _ ?_)
  refine wpAny_newFunctionEnv_cells S.kind (fun z hz => ?_) fun env he s1 x => ?_
  · obtain ⟨n, v⟩ := z
    exact (S.par n (List.of_mem_zip hz).1).imp id fun q => ⟨q, PySem.W.cellsFrom_some _ _ _ (.inl q)⟩
  subst he
  refine ⟨(e0.mod.nolimit.keeps fun b o e => (e0.bs b o e).1).keeps x.toInCall.keep, codeAny_func ?_⟩
  obtain ⟨t, ht, hq⟩ := body cd A fr s H vs Q E (room.deeper _) hs
  have I : Inv (cxW P w K mg base N qual (defScope st) f cd A fr s H E) [] (L2.start N vs) H s1 := inv_startW S e0 (args _ _ _ _ hs) rv x
  refine wpAny_mono (ht.nox.run [] s1 (L2.start N vs) H _ I hq) (fun fl s' h => ?_) fun _ _ h => h
  match fl, h with
  | .ret u, ⟨v, _, H', J, r, q⟩ => exact ⟨v, H', J.os, J.bare, J.base, J.hok, r, q⟩
  | .next, ⟨_, H', J, q⟩ => exact ⟨V.non, H', J.os, J.bare, J.base, J.hok, rfl, q⟩
  | .brk, ⟨_, _, _, q⟩ => exact q.elim
  | .cont, ⟨_, _, _, q⟩ => exact q.elim
end
section
variable {X : Cx} {k : Nat} {f : Addr} {fd : FuncData} {ps : List Str} {sp : Sp} {x : Str} {q pos : Pos} {e : Expr} {es : List Expr} {t : TA}
theorem pe_callW (F : FnW X.prog X.w X.K X.mg X.base k f fd ps sp) (room : L2H.RoomH k X.A) (hg : Gl X x) (hm : X.mg x = some (.ref f)) (kp : PySem.W.keepIn X.K (.ref f) = true) (bi : Binds X.K fd ps []) (ha : PA X (e :: es) t)
    (hdb : (x == ("__debug__" : Str)) = false := by decide) (he : starEach (e :: es) X.env = (false, eval e X.env) :: starEach es X.env := by rfl) (hpl : (backTo pos (starEach es X.env)).any (·.1) = false := by rfl) :
    PE X (.Call (.Name x q) (e :: es) [] pos) (tCall sp [] E0 t) := by
  refine ⟨fun pins s σ H Q I h => wpAny_Call_Name_kw (ld_glob I hg hm ?_ hdb)⟩
  refine PySem.W.callWith_K (h₀ := X.base) I.ok.mod.kin kp (thn (ha.run pos pins s σ H _ I h) fun us s1 ⟨vs, H1, I1, r, h1⟩ => ⟨I1.kIn, ?_⟩) he hpl
  have h2 : sp (vs ++ []) H1 Q E0 := h1
  rw [List.append_nil] at h2
  have b := bi s1 us I1.kIn (by rw [List.append_nil, ← r.length]; exact F.args _ _ _ _ h2)
  rw [List.append_nil] at b
  refine wpAny_call (codeAny_mono (F.go X.A X.stack s1 H1 ⟨us, []⟩ us vs Q E0 room I1.env0 b r h2) fun c s' hc => ?_)
  match c, hc with
  | .error _, hc => exact False.elim hc
  | .ok (.ret _), hc => exact I1.after hc
  | .ok .next, hc => exact False.elim hc
  | .ok .brk, hc => exact False.elim hc
  | .ok .cont, hc => exact False.elim hc
theorem roomW {k : Nat} {A : Around} {h : Option Value} (r : Room k A) : L2H.RoomH k (A.mark h) := ⟨r.dp, r.un⟩
/-- a statement that is never reached -/
theorem pss_never {b : List Stmt} : PSs X b (fun _ _ _ => False) := ⟨fun _ _ _ _ _ _ h => h.elim⟩
end
end Sl
namespace Sl
open PySem PySem.Spec PyProof.Rows L2
local macro_rules | `(tactic| walk_at "nin") => `(tactic| first | assumption | exact List.not_mem_nil | (simp only [List.mem_cons, List.not_mem_nil, not_or, or_false, not_false_eq_true, and_true]; first | assumption | walk_at "ne" | (refine ⟨?_, ?_⟩ <;> walk_at "ne") | (refine ⟨?_, ?_, ?_⟩ <;> walk_at "ne")))
local macro_rules | `(tactic| walk_at "ne") => `(tactic| first | assumption | exact Ne.symm (by assumption) | (refine Fr.ne ?_ ?_ <;> first | assumption | walk_at "hp") | (refine Ne.symm (Fr.ne ?_ ?_) <;> first | assumption | walk_at "hp"))
local macro_rules | `(tactic| walk_at "hp") => `(tactic| first
  | assumption
  | exact upd_same
  | (refine Eq.trans (upd_ne ?_) ?_ <;> first | walk_at "hp" | walk_at "ne")
  | (refine Kp.get (by assumption) ?_ ?_ <;> first | walk_at "hp" | exact .inr rfl | exact .inl List.not_mem_nil | (refine .inl ?_; walk_at "nin")))
local macro_rules | `(tactic| walk_at "sl") => `(tactic| first | assumption | (refine .inl (.inl ?_); walk_at "hp") | (refine Kp.sqL (by assumption) ?_ ?_ <;> first | walk_at "sl" | walk_at "nin") | (refine Kp.sqL (Kp.new (by assumption)) (A := []) List.not_mem_nil ?_; walk_at "sl"))
local macro_rules | `(tactic| walk_at "rd") => `(tactic| first
  | refine ⟨_, rfl, ?_⟩
  | refine ⟨_, _, rfl, rfl, ?_⟩
  | refine ⟨_, _, rfl, rfl, (by first | decide | omega), ?_⟩
  | refine .inl ⟨_, rfl, ?_⟩
  | refine ⟨rfl, ?_⟩
  | refine ⟨_, _, _, _, rfl, rfl, (by walk_at "sl"), rfl, ?_⟩)
local macro_rules | `(tactic| walk_at "rds") => `(tactic| repeat (walk_at "rd"))
local macro_rules | `(tactic| walk_at "vl") => `(tactic| first
  | exact vl_c
  | exact vl_var rfl
  | (refine' vl_op ?h1 ?h2 ?h3; (case h1 => walk_at "vl"); (case h2 => walk_at "vl"); (case h3 => walk_at "rl"))
  | (refine' vl_un ?h1 ?h3; (case h1 => walk_at "vl"); (case h3 => walk_at "rl"))
  | (refine' vl_cb1 ?h1 ?h3; (case h1 => walk_at "vl"); (case h3 => walk_at "rl"))
  | (refine' vl_cb2 ?h1 ?h2 ?h3; (case h1 => walk_at "vl"); (case h2 => walk_at "vl"); (case h3 => walk_at "rl"))
  | (refine' vl_not ?h1; (case h1 => walk_at "vl"))
  | (refine' vl_andV ?h1 ?h2; (case h1 => walk_at "vl"); (case h2 => intro _; walk_at "vl"))
  | (refine' vl_orV ?h1 ?h2; (case h1 => walk_at "vl"); (case h2 => intro _; walk_at "vl"))
  | (refine' vl_chain ?h1 ?h2 ?h3 ?h4 ?h5; (case h1 => walk_at "vl"); (case h2 => walk_at "vl"); (case h4 => walk_at "rl"); (case h3 => intro _; walk_at "vl"); (case h5 => intro _; walk_at "rl")))
local macro_rules | `(tactic| walk_at "rl") => `(tactic| (intro Q' q'; first
  | exact ⟨_, _, rfl, rfl, q'⟩
  | exact ⟨rfl, q'⟩
  | exact ⟨_, rfl, q'⟩
  | exact .inl ⟨_, rfl, q'⟩
  | exact ⟨_, _, _, _, rfl, rfl, (by assumption), rfl, q'⟩
  | exact ⟨_, _, rfl, .inr ⟨_, by assumption, rfl⟩, q'⟩
  | exact ⟨_, _, rfl, .inl ⟨_, by assumption, rfl⟩, q'⟩
  | exact ⟨_, rfl, (by first | assumption | exact sz (by assumption) | exact sz (by omega)), q'⟩
  | exact ⟨_, _, rfl, rfl, (by first | assumption | exact ⟨by omega, by omega⟩ | (show (0 : Int) < _; omega) | exact .inl ⟨by omega, by omega⟩ | exact .inr ⟨by omega, by omega⟩), q'⟩))
local macro_rules | `(tactic| walk_at "an") => `(tactic| first
  | (refine' an_and ?h1 ?h2; (case h1 => walk_at "an"); (case h2 => intro _; walk_at "an"))
  | (refine' an_or ?h1 ?h2; (case h1 => walk_at "an"); (case h2 => intro _; walk_at "an"))
  | (refine' an_not ?h1; (case h1 => walk_at "an"))
  | (refine' an_cmp ?h1 ?h2 ?h3; (case h1 => walk_at "vl"); (case h2 => walk_at "vl"); (case h3 => walk_at "rl"))
  | (refine' an_val ?h1; (case h1 => walk_at "vl"))
  | (refine' an_test ?h1; (case h1 => walk_at "vl")))
local macro_rules | `(tactic| walk_at "if") => `(tactic| ((try refine gnK ?_); (first | refine' seq_if0 ?h ?k1 ?k2 | refine' seq_if ?h ?k1 ?k2 | refine' if_an ?h ?k1 ?k2); (case h => walk_at "an")))
local macro_rules | `(tactic| walk_at "st") => `(tactic| ((try refine gnK ?_); first | refine seq_setK ?_ | refine setK ?_ | refine seq_dropK ?_ | refine dropK' ?_ | refine seq_ifK0 ?_ | refine seq_ifK ?_ | refine if_anK ?_ | refine retK ?_ | refine nextK ?_))
local macro_rules | `(tactic| walk_at "set") => `(tactic| (refine' seq_set ?h ?k; (case h => walk_at "vl")))
theorem asB {Q : VK} {b b' : Bool} {H : Hp} (q : Q (.bl b) H) (e : b = b') : Q (.bl b') H := e ▸ q
/-! data of tuples, ints and texts alone: it stands whatever changes; n: how deep -/
mutual
inductive Fd (K : PySem.W.Frag) (H : Hp) : Nat → V → PyData → Prop
  | int {n : Nat} (i : Int) : Fd K H n (.int i) (.int i)
  | str {n : Nat} (s : Str) : Fd K H n (.str s) (.str s)
  | tup {n : Nat} {a : Addr} {xs : List V} {ds : List PyData} : SqT K H a xs → FdAll K H n xs ds → Fd K H (n + 1) (.ref a) (.tuple ds)
inductive FdAll (K : PySem.W.Frag) (H : Hp) : Nat → List V → List PyData → Prop
  | nil {n : Nat} : FdAll K H n [] []
  | cons {n : Nat} {v : V} {vs : List V} {d : PyData} {ds : List PyData} : Fd K H n v d → FdAll K H n vs ds → FdAll K H n (v :: vs) (d :: ds)
end
section
variable {A : List Addr} {K : PySem.W.Frag} {H H' : Hp} {n m : Nat}
mutual
theorem Fd.kp (k : Kp A H H') : ∀ {n : Nat} {v : V} {d : PyData}, Fd K H n v d → Fd K H' n v d
  | _, _, _, .int i => .int i
  | _, _, _, .str x => .str x
  | _, _, _, .tup h t => .tup (k.sqT h) (FdAll.kp k t)
theorem FdAll.kp (k : Kp A H H') : ∀ {n : Nat} {vs : List V} {ds : List PyData}, FdAll K H n vs ds → FdAll K H' n vs ds
  | _, _, _, .nil => .nil
  | _, _, _, .cons h t => .cons (Fd.kp k h) (FdAll.kp k t)
end
mutual
theorem Fd.dp : ∀ {n : Nat} {v : V} {d : PyData}, Fd K H n v d → Dp K H v d
  | _, _, _, .int i => .int i
  | _, _, _, .str x => .str x
  | _, _, _, .tup h t => .tup h (FdAll.dp t)
theorem FdAll.dp : ∀ {n : Nat} {vs : List V} {ds : List PyData}, FdAll K H n vs ds → DpAll K H vs ds
  | _, _, _, .nil => .nil
  | _, _, _, .cons h t => .cons (Fd.dp h) (FdAll.dp t)
end
mutual
theorem Fd.up : ∀ {n : Nat} {v : V} {d : PyData}, Fd K H n v d → Fd K H (n + 1) v d
  | _, _, _, .int i => .int i
  | _, _, _, .str x => .str x
  | _, _, _, .tup h t => .tup h (FdAll.up t)
theorem FdAll.up : ∀ {n : Nat} {vs : List V} {ds : List PyData}, FdAll K H n vs ds → FdAll K H (n + 1) vs ds
  | _, _, _, .nil => .nil
  | _, _, _, .cons h t => .cons (Fd.up h) (FdAll.up t)
end
mutual
theorem Fd.plain : ∀ {n : Nat} {v : V} {d : PyData}, Fd K H n v d → PyData.plain d = true
  | _, _, _, .int i => rfl
  | _, _, _, .str x => rfl
  | _, _, _, .tup h t => by rw [PyData.plain]; exact FdAll.plain t
theorem FdAll.plain : ∀ {n : Nat} {vs : List V} {ds : List PyData}, FdAll K H n vs ds → PyData.plainAll ds = true
  | _, _, _, .nil => rfl
  | _, _, _, .cons h t => by rw [PyData.plainAll, Fd.plain h, FdAll.plain t]; rfl
end
mutual
theorem Fd.depth : ∀ {n : Nat} {v : V} {d : PyData}, Fd K H n v d → PyData.depth d ≤ n + 1
  | _, _, _, .int i => by simp [PyData.depth]
  | _, _, _, .str x => by simp [PyData.depth]
  | _, _, _, .tup h t => by rw [PyData.depth]; have := FdAll.depth t; omega
theorem FdAll.depth : ∀ {n : Nat} {vs : List V} {ds : List PyData}, FdAll K H n vs ds → PyData.depthAll ds ≤ n + 1
  | _, _, _, .nil => by simp [PyData.depthAll]
  | _, _, _, .cons h t => by rw [PyData.depthAll]; have := Fd.depth h; have := FdAll.depth t; omega
end
theorem Fd.pln {v : V} {d : PyData} (h : Fd K H n v d) (hn : n ≤ 31) : pln d := ⟨h.plain, by have := h.depth; omega⟩
theorem eqv_same {d : PyData} (h : d.plain = true) : PyData.eqv d d = true := SeqAt.eqv_refl_plain _ h
theorem FdAll.length : ∀ {n : Nat} {vs : List V} {ds : List PyData}, FdAll K H n vs ds → vs.length = ds.length
  | _, _, _, .nil => rfl
  | _, _, _, .cons _ t => congrArg Nat.succ (FdAll.length t)
theorem FdAll.at : ∀ {n : Nat} {vs : List V} {ds : List PyData} {i : Nat} {v : V}, FdAll K H n vs ds → vs[i]? = some v → ∃ d, ds[i]? = some d ∧ Fd K H n v d
  | _, _, _, i, v, .nil, h => by simp at h
  | _, _, _, 0, v, .cons h _, e => by cases e; exact ⟨_, rfl, h⟩
  | _, _, _, i + 1, v, .cons _ t, e => FdAll.at (i := i) t e
theorem FdAll.at' : ∀ {n : Nat} {vs : List V} {ds : List PyData} {i : Nat} {d : PyData}, FdAll K H n vs ds → ds[i]? = some d → ∃ v, vs[i]? = some v ∧ Fd K H n v d
  | _, _, _, i, v, .nil, h => by simp at h
  | _, _, _, 0, v, .cons h _, e => by cases e; exact ⟨_, rfl, h⟩
  | _, _, _, i + 1, v, .cons _ t, e => FdAll.at' (i := i) t e
theorem FdAll.atm {α : Type} {f : α → PyData} {xs : List α} {vs : List V} {i : Nat} {v : V} (h : FdAll K H n vs (xs.map f)) (e : vs[i]? = some v) : ∃ x, xs[i]? = some x ∧ Fd K H n v (f x) := by
  obtain ⟨d, hd, hf⟩ := h.at e
  rw [List.getElem?_map] at hd
  obtain ⟨x, hx, rfl⟩ := Option.map_eq_some_iff.mp hd
  exact ⟨x, hx, hf⟩
theorem FdAll.atm' {α : Type} {f : α → PyData} {xs : List α} {vs : List V} {i : Nat} {x : α} (h : FdAll K H n vs (xs.map f)) (e : xs[i]? = some x) : ∃ v, vs[i]? = some v ∧ Fd K H n v (f x) :=
  h.at' (by rw [List.getElem?_map, e]; rfl)
theorem FdAll.app : ∀ {n : Nat} {vs ws : List V} {ds es : List PyData}, FdAll K H n vs ds → FdAll K H n ws es → FdAll K H n (vs ++ ws) (ds ++ es)
  | _, _, _, _, _, .nil, h => h
  | _, _, _, _, _, .cons h t, r => .cons h (FdAll.app t r)
theorem FdAll.one {v : V} {d : PyData} (h : Fd K H n v d) : FdAll K H n [v] [d] := .cons h .nil
theorem FdAll.snoc {v : V} {d : PyData} {vs : List V} {ds : List PyData} (t : FdAll K H n vs ds) (h : Fd K H n v d) : FdAll K H n (vs ++ [v]) (ds ++ [d]) := t.app (.one h)
theorem FdAll.strs : ∀ {n : Nat} {vs : List V} {ss : List Str}, FdAll K H n vs (ss.map .str) → vs = ss.map V.str
  | _, _, [], .nil => rfl
  | _, _, s :: ss, .cons h t => by cases h; rw [List.map_cons, FdAll.strs t]
theorem FdAll.ints : ∀ {n : Nat} {vs : List V} {ss : List Int}, FdAll K H n vs (ss.map .int) → vs = ss.map V.int
  | _, _, [], .nil => rfl
  | _, _, s :: ss, .cons h t => by cases h; rw [List.map_cons, FdAll.ints t]
theorem fd_strs : ∀ (ss : List Str), FdAll K H n (ss.map V.str) (ss.map .str)
  | [] => .nil
  | s :: ss => .cons (.str s) (fd_strs ss)
theorem fd_ints : ∀ (ss : List Int), FdAll K H n (ss.map V.int) (ss.map .int)
  | [] => .nil
  | s :: ss => .cons (.int s) (fd_ints ss)
theorem Fd.tup_inv {v : V} {ds : List PyData} (h : Fd K H (n + 1) v (.tuple ds)) : ∃ a xs, v = .ref a ∧ SqT K H a xs ∧ FdAll K H n xs ds := by
  cases h with
  | tup r t => exact ⟨_, _, rfl, r, t⟩
theorem Fd.two {v : V} {d e : PyData} (h : Fd K H (n + 1) v (.tuple [d, e])) : ∃ a x y, v = .ref a ∧ SqT K H a [x, y] ∧ Fd K H n x d ∧ Fd K H n y e := by
  obtain ⟨a, xs, rfl, hs, ha⟩ := h.tup_inv
  cases ha with
  | cons h1 r => cases r with
    | cons h2 r => cases r; exact ⟨a, _, _, rfl, hs, h1, h2⟩
theorem Fd.three {v : V} {d e f : PyData} (h : Fd K H (n + 1) v (.tuple [d, e, f])) : ∃ a x y z, v = .ref a ∧ SqT K H a [x, y, z] ∧ Fd K H n x d ∧ Fd K H n y e ∧ Fd K H n z f := by
  obtain ⟨a, xs, rfl, hs, ha⟩ := h.tup_inv
  cases ha with
  | cons h1 r => cases r with
    | cons h2 r => cases r with
      | cons h3 r => cases r; exact ⟨a, _, _, _, rfl, hs, h1, h2, h3⟩
theorem Fd.str_inv {v : V} {s : Str} (h : Fd K H n v (.str s)) : v = .str s := by cases h; rfl
theorem Fd.int_inv {v : V} {s : Int} (h : Fd K H n v (.int s)) : v = .int s := by cases h; rfl
theorem FdAll.take {vs : List V} : ∀ {n : Nat} {vs : List V} {ds : List PyData} (i : Nat), FdAll K H n vs ds → FdAll K H n (vs.take i) (ds.take i)
  | _, _, _, _, .nil => by simp; exact .nil
  | _, _, _, 0, .cons _ _ => .nil
  | _, _, _, i + 1, .cons h t => .cons h (FdAll.take (vs := vs) i t)
end
/-! the data of the bridges -/
def prD (p : Str × Int) : PyData := .tuple [.str p.1, .int p.2]
def prsD (ps : List (Str × Int)) : PyData := .tuple (ps.map prD)
def rowD (r : List Int) : PyData := .tuple (r.map .int)
def nmD (ns : List Str) : PyData := .tuple (ns.map .str)
def thD (ns : List Str) (cs : List PyData) : PyData := .tuple [nmD ns, .tuple cs]
def bitR : Nat → List (List Int)
  | 0 => [[]]
  | n + 1 => (bitR n).flatMap fun r => [r ++ [0], r ++ [1]]
def keptB (cl : List (Str × Int)) (r : List Int) : Bool := (cl.zip r).any fun p => p.1.2 == p.2
def tblD (cl : List (Str × Int)) : PyData := .tuple [nmD (cl.map (·.1)), .tuple (((bitR cl.length).filter (keptB cl)).map rowD)]
def unitD (s : Str) : PyData := .tuple [nmD [s], .tuple [rowD [0], rowD [1]]]
def mvI (cl : List (Str × Int)) (r : List Int) : Int := if keptB cl r then 1 else -1
def machD (cl : List (Str × Int)) : PyData := .tuple [nmD (cl.map (·.1)), .tuple [rowD ((bitR cl.length).map (mvI cl)), rowD (List.replicate (bitR cl.length).length (-1))], rowD [0, 1]]
def oneD : PyData := .tuple [.tuple [], .tuple [rowD [1], rowD [-1]], rowD [0, 1]]
def consD (c : Str × Str × Int) : PyData := .tuple [.str c.1, .str c.2.1, .int c.2.2]
def lineT (c : Str × Str × Int) : List (Str × Int) := [(c.1, 1), (c.2.1, -1)].filter fun p => !decide (p.1 = "")
def srtP (ps : List (Str × Int)) : List PyData := (ps.map prD).mergeSort (PySem.W.dataLe false fun d => d)
def lineD (c : Str × Str × Int) : PyData := .tuple [.tuple (srtP (lineT c)), .str "<=", .int c.2.2]
abbrev Par := List (Str × Int) × Int × Int
def parD (p : Par) : PyData := .tuple [prsD p.1, .int p.2.1, .int p.2.2]
def oddN (ts : List (Str × Int)) : List Str := (ts.filter fun t => decide (t.2 % 2 = 1)).map (·.1)
def wrong (k : Nat) (rest : Int) (s : List Int) : Bool := decide (((k : Int) - s.sum - rest) % 2 = 1)
def clsOf (ts : List (Str × Int)) (rest : Int) : List (List (Str × Int)) := ((bitR (oddN ts).length).filter (wrong (oddN ts).length rest)).map fun s => (oddN ts).zip s
def never : Par := ([], 0, 1)
def clsP (p : Par) : List (List (Str × Int)) := if p.2.1 = 2 then clsOf p.1 p.2.2 else [[]]
def okP (p : Par) : Bool := decide (p.2.1 = 2) || decide (p = never)
theorem bitR_len : ∀ {n : Nat} {r : List Int}, r ∈ bitR n → r.length = n
  | 0, r, h => by
    simp only [bitR, List.mem_singleton] at h; rw [h]; rfl
  | n + 1, r, h => by
    simp only [bitR, List.mem_flatMap, List.mem_cons, List.not_mem_nil, or_false] at h
    obtain ⟨q, hq, e | e⟩ := h <;> rw [e, List.length_append, bitR_len hq] <;> rfl
theorem bitR_size : ∀ n : Nat, (bitR n).length = 2 ^ n
  | 0 => rfl
  | n + 1 => by
    simp only [bitR, List.length_flatMap, List.length_cons, List.length_nil, List.map_const', List.sum_replicate_nat, bitR_size n]
    rw [Nat.pow_succ]
theorem bitR_small {n : Nat} (h : n ≤ 6) : (bitR n).length ≤ 64 := by
  rw [bitR_size]; exact Nat.pow_le_pow_right (by decide) h
/-! lists under way: an own list at D, everything else as at H1 -/
structure PvF (A : List Addr) (K : PySem.W.Frag) (lev : Nat) (H1 : Hp) (D : Addr) (f : List PyData) (H : Hp) : Prop where
  ex : ∃ acc, H D = some (.lst acc) ∧ FdAll K H lev acc f
  kp : Kp A H1 H
section
variable {A B : List Addr} {K : PySem.W.Frag} {H1 H2 H H' : Hp} {lev : Nat} {D : Addr} {f : List PyData} {d : PyData} {y : V}
theorem pvF_0 (hD : H1 D = none) : PvF A K lev H1 D [] (upd H1 D (.lst [])) := ⟨⟨[], upd_same, .nil⟩, Kp.new hD⟩
theorem PvF.to {g : List PyData} (h : PvF A K lev H1 D f H) (e : f = g) : PvF A K lev H1 D g H := e ▸ h
theorem PvF.skip (h : PvF A K lev H1 D f H) (k : Kp A H H') (n : D ∉ A) : PvF A K lev H1 D f H' := by
  obtain ⟨⟨acc, h1, h2⟩, h3⟩ := h
  exact ⟨⟨acc, k.get h1 (.inl n), h2.kp k⟩, h3.trans k⟩
theorem PvF.step (h : PvF A K lev H1 D f H) (k : Kp A H H') (n : D ∉ A) (hD : H1 D = none) (hl : f.length < 90000) (hy : Fd K H' lev y d) : ∃ acc, H' D = some (.lst acc) ∧ acc.length < sizeLine ∧ PvF A K lev H1 D (f ++ [d]) (upd H' D (.lst (acc ++ [y]))) := by
  obtain ⟨⟨acc, h1, h2⟩, h3⟩ := h
  have h4 := k.get h1 (.inl n)
  have ko : Kp [D] H' (upd H' D (.lst (acc ++ [y]))) := Kp.own h4 rfl (by simp)
  refine ⟨acc, h4, szl (by rw [h2.length]; omega), ⟨_, upd_same, (h2.kp (k)).kp ko |>.snoc (hy.kp ko)⟩, (h3.trans k).put hD⟩
/-- several at once -/
theorem PvF.ext {g : List PyData} {ys : List V} (h : PvF A K lev H1 D f H) (k : Kp A H H') (n : D ∉ A) (hD : H1 D = none) (hl : f.length + g.length < 90000) (hy : FdAll K H' lev ys g) : ∃ acc, H' D = some (.lst acc) ∧ acc.length + ys.length ≤ sizeLine ∧ PvF A K lev H1 D (f ++ g) (upd H' D (.lst (acc ++ ys))) := by
  obtain ⟨⟨acc, h1, h2⟩, h3⟩ := h
  have h4 := k.get h1 (.inl n)
  have ko : Kp [D] H' (upd H' D (.lst (acc ++ ys))) := Kp.own h4 rfl (by simp)
  refine ⟨acc, h4, sz (by rw [h2.length, hy.length]; omega), ⟨_, upd_same, (h2.kp (k)).kp ko |>.app (hy.kp ko)⟩, (h3.trans k).put hD⟩
end
section
variable {α β : Type} {xs : List α} {i : Nat} {x : α} {p : α → Bool} {g : α → β} {h : α → List β}
theorem tk_map (e : xs[i]? = some x) : (xs.take (i + 1)).map g = (xs.take i).map g ++ [g x] := by
  rw [List.take_add_one, e, List.map_append]; rfl
theorem tk_filT (e : xs[i]? = some x) (hp : p x = true) : ((xs.take (i + 1)).filter p).map g = ((xs.take i).filter p).map g ++ [g x] := by
  rw [List.take_add_one, e, List.filter_append, List.map_append]; simp [hp]
theorem tk_filF (e : xs[i]? = some x) (hp : p x = false) : ((xs.take (i + 1)).filter p).map g = ((xs.take i).filter p).map g := by
  rw [List.take_add_one, e, List.filter_append, List.map_append]; simp [hp]
theorem tk_flat (e : xs[i]? = some x) : (xs.take (i + 1)).flatMap h = (xs.take i).flatMap h ++ h x := by
  rw [List.take_add_one, e, List.flatMap_append]; simp
theorem tk_any {q : α → Bool} (e : xs[i]? = some x) : (xs.take (i + 1)).any q = ((xs.take i).any q || q x) := by
  rw [List.take_add_one, e, List.any_append]; simp
theorem tk_len (i : Nat) : ((xs.take i).map g).length ≤ xs.length := by
  rw [List.length_map, List.length_take]; omega
theorem tk_filLen (i : Nat) : (((xs.take i).filter p).map g).length ≤ xs.length := by
  have h1 := List.length_filter_le p (xs.take i)
  rw [List.length_map]
  rw [List.length_take] at h1; omega
theorem all_at (h : ∀ x ∈ xs, p x = true) (e : xs[i]? = some x) : p x = true := h x (List.mem_of_getElem? e)
end
theorem valV_kvZ : ∀ {ks : List Str} {ys : List V} {i : Nat} {s : Str} {v : V}, ks.Nodup → ks[i]? = some s → ys[i]? = some v → valV (kvZ ks ys) (.inr s) = some v
  | [], _, _, _, _, _, h, _ => by simp at h
  | _ :: _, [], _, _, _, _, _, h => by simp at h
  | k :: ks, y :: ys, 0, s, v, _, h1, h2 => by
    cases h1; cases h2
    simp [kvZ, valV]
  | k :: ks, y :: ys, i + 1, s, v, nd, h1, h2 => by
    have n := List.nodup_cons.mp nd
    have h1' : ks[i]? = some s := h1
    have ne : k ≠ s := fun e => n.1 (e ▸ List.mem_of_getElem? h1')
    have ih := valV_kvZ (ys := ys) n.2 h1' (show ys[i]? = some v from h2)
    unfold valV kvZ at ih ⊢
    rw [List.zip_cons_cons, List.map_cons, List.find?_cons_of_neg (by simpa using ne)]
    exact ih
def gcl (cl : List (Str × Int)) : Prop := (cl.map (·.1)).Nodup ∧ cl.length ≤ 6
theorem lineT_small (c : Str × Str × Int) : (lineT c).length ≤ 2 := by
  exact List.length_filter_le _ _
theorem prs_alike (ps : List (Str × Int)) : PySem.W.AllAlike (ps.map prD) := by
  intro d hd d' hd'
  obtain ⟨r, _, rfl⟩ := List.mem_map.mp hd
  obtain ⟨r', _, rfl⟩ := List.mem_map.mp hd'
  simp [prD, PySem.W.alike, PySem.W.alikeAll]
theorem prs_sortable (ps : List (Str × Int)) : PySem.W.Sortable (ps.map prD) := .inl fun d hd => by
  obtain ⟨r, hr, rfl⟩ := List.mem_map.mp hd
  exact ⟨_, _, rfl⟩
theorem wrong_len {ts : List (Str × Int)} : (oddN ts).length ≤ ts.length := by
  unfold oddN
  rw [List.length_map]; exact List.length_filter_le _ _
theorem clsOf_small {ts : List (Str × Int)} {rest : Int} (h : ts.length ≤ 6) : (clsOf ts rest).length ≤ 64 := by
  unfold clsOf
  rw [List.length_map]
  have h1 := List.length_filter_le (wrong (oddN ts).length rest) (bitR (oddN ts).length)
  have h2 := wrong_len (ts := ts)
  have h3 := bitR_small (n := (oddN ts).length) (by omega)
  omega
theorem fd_of_dp {K : PySem.W.Frag} {H : Hp} : ∀ {ps : List (Str × Int)} {vs : List V}, DpAll K H vs (ps.map prD) → FdAll K H 1 vs (ps.map prD)
  | [], _, .nil => .nil
  | p :: ps, _, .cons h t => by
    refine .cons ?_ (fd_of_dp t)
    cases h with
    | tup hs ha => cases ha with
      | cons h1 r => cases r with
        | cons h2 r => cases r; cases h1; cases h2; exact .tup hs (.cons (.str _) (.cons (.int _) .nil))
theorem ex_prs : ∀ {ds : List PyData}, (∀ d ∈ ds, ∃ p, d = prD p) → ∃ ps : List (Str × Int), ds = ps.map prD
  | [], _ => ⟨[], rfl⟩
  | d :: ds, h => by
    obtain ⟨p, e⟩ := h d (List.mem_cons_self ..)
    obtain ⟨ps, e'⟩ := ex_prs fun x hx => h x (List.mem_cons_of_mem _ hx)
    exact ⟨p :: ps, by rw [e, e']; rfl⟩
theorem srt_fd {K : PySem.W.Frag} {H : Hp} {ps : List (Str × Int)} {vs : List V} (h : DpAll K H vs (srtP ps)) : FdAll K H 1 vs (srtP ps) := by
  obtain ⟨qs, e⟩ := ex_prs (ds := srtP ps) fun d hd => by
    obtain ⟨r, _, rfl⟩ := List.mem_map.mp ((List.mergeSort_perm _ _).mem_iff.mp hd)
    exact ⟨r, rfl⟩
  rw [e] at h ⊢
  exact fd_of_dp h
theorem prD_inv {K : PySem.W.Frag} {H : Hp} {n : Nat} {v : V} {p : Str × Int} (h : Fd K H (n + 1) v (prD p)) : ∃ a, v = .ref a ∧ SqT K H a [.str p.1, .int p.2] := by
  obtain ⟨a, x, y, rfl, hs, h1, h2⟩ := h.two
  rw [h1.str_inv, h2.int_inv] at hs
  exact ⟨a, rfl, hs⟩
theorem rowD_inv {K : PySem.W.Frag} {H : Hp} {n : Nat} {v : V} {r : List Int} (h : Fd K H (n + 1) v (rowD r)) : ∃ a, v = .ref a ∧ SqT K H a (r.map V.int) := by
  obtain ⟨a, xs, rfl, hs, ha⟩ := h.tup_inv
  rw [ha.ints] at hs
  exact ⟨a, rfl, hs⟩
theorem nmD_inv {K : PySem.W.Frag} {H : Hp} {n : Nat} {v : V} {r : List Str} (h : Fd K H (n + 1) v (nmD r)) : ∃ a, v = .ref a ∧ SqT K H a (r.map V.str) := by
  obtain ⟨a, xs, rfl, hs, ha⟩ := h.tup_inv
  rw [ha.strs] at hs
  exact ⟨a, rfl, hs⟩
theorem consD_inv {K : PySem.W.Frag} {H : Hp} {n : Nat} {v : V} {c : Str × Str × Int} (h : Fd K H (n + 1) v (consD c)) : ∃ a, v = .ref a ∧ SqT K H a [.str c.1, .str c.2.1, .int c.2.2] := by
  obtain ⟨a, x, y, z, rfl, hs, h1, h2, h3⟩ := h.three
  rw [h1.str_inv, h2.str_inv, h3.int_inv] at hs
  exact ⟨a, rfl, hs⟩
theorem parD_inv {K : PySem.W.Frag} {H : Hp} {n : Nat} {v : V} {p : Par} (h : Fd K H (n + 1) v (parD p)) : ∃ a x, v = .ref a ∧ SqT K H a [x, .int p.2.1, .int p.2.2] ∧ Fd K H n x (prsD p.1) := by
  obtain ⟨a, x, y, z, rfl, hs, h1, h2, h3⟩ := h.three
  rw [h2.int_inv, h3.int_inv] at hs
  exact ⟨a, x, rfl, hs, h1⟩
/-- a theory: the names' tuple, the constraints' tuple -/
theorem thD_inv {K : PySem.W.Frag} {H : Hp} {n : Nat} {v : V} {ns : List Str} {cs : List PyData} (h : Fd K H (n + 2) v (thD ns cs)) : ∃ t x y cvs, v = .ref t ∧ SqT K H t [.ref x, .ref y] ∧ SqT K H x (ns.map V.str) ∧ SqT K H y cvs ∧ FdAll K H n cvs cs := by
  obtain ⟨t, x, y, rfl, hs, h1, h2⟩ := h.two
  obtain ⟨x, rfl, hx⟩ := nmD_inv h1
  obtain ⟨y, cvs, rfl, hy, hc⟩ := h2.tup_inv
  exact ⟨t, x, y, cvs, rfl, hs, hx, hy, hc⟩
theorem thD_mk {K : PySem.W.Frag} {H : Hp} {n : Nat} {t x y : Addr} {ns : List Str} {cvs : List V} {cs : List PyData} (h0 : SqT K H t [.ref x, .ref y]) (h1 : SqT K H x (ns.map V.str)) (h2 : SqT K H y cvs) (h3 : FdAll K H n cvs cs) : Fd K H (n + 2) (.ref t) (thD ns cs) :=
  .tup h0 (.cons (.tup h1 (fd_strs ns)) (.cons (.tup h2 h3) .nil))
theorem one_all {K : PySem.W.Frag} {H : Hp} {n : Nat} {v : V} {d : PyData} (h : Fd K H n v d) : FdAll K H n [v] [d] := .cons h .nil
theorem row_fd {K : PySem.W.Frag} {H : Hp} {n : Nat} {a : Addr} {r : List Int} (h : SqT K H a (r.map V.int)) : Fd K H (n + 1) (.ref a) (rowD r) := .tup h (fd_ints r)
theorem nm_fd {K : PySem.W.Frag} {H : Hp} {n : Nat} {a : Addr} {r : List Str} (h : SqT K H a (r.map V.str)) : Fd K H (n + 1) (.ref a) (nmD r) := .tup h (fd_strs r)
theorem pr_fd {K : PySem.W.Frag} {H : Hp} {n : Nat} {a : Addr} {s : Str} {i : Int} (h : SqT K H a [.str s, .int i]) : Fd K H (n + 1) (.ref a) (prD (s, i)) := .tup h (.cons (.str _) (.cons (.int _) .nil))
def extR (r : List Int) : List (List Int) := [r ++ [0], r ++ [1]]
theorem bitR_succ (n : Nat) : bitR (n + 1) = (bitR n).flatMap extR := rfl
theorem ext_len (l : List (List Int)) : (l.flatMap extR).length = 2 * l.length := by
  induction l with
  | nil => rfl
  | cons x l ih => rw [List.flatMap_cons, List.length_append, ih, List.length_cons]; show 2 + _ = _; omega
theorem Pv_new {A : List Addr} {H H' : Hp} {p : Addr} (k : Kp A H H') (h : H' p = none) (n : p ∉ A) : H p = none := k.none n h
theorem atI_nat' {xs : List V} {n : Nat} {v : V} {i : Int} (h : xs[n]? = some v) (e : i = (n : Int)) : atI xs i = some v := e ▸ atI_nat h
theorem tyx_tup {K : PySem.W.Frag} {H : Hp} {a : Addr} {xs : List V} (h : SqT K H a xs) : TyX K H (.ref a) (.type "tuple") := by
  rcases h with (h | ⟨z, h⟩) | h
  · exact .base (.tup h)
  · exact .fTuple h
  · obtain ⟨o, its, n, h1, h2, _⟩ := h
    exact .kTuple h1 h2
theorem catA {K : PySem.W.Frag} {a b : Addr} {xs ys : List V} {H : Hp} {Q : VK} (ha : SqT K H a xs) (hb : SqT K H b ys) (hl : xs.length + ys.length ≤ 100000) (q : ∀ t H', Kp [] H H' → SqT K H' t (xs ++ ys) → Q (.ref t) H') : rCatA K (.ref a) (.ref b) H Q :=
  ⟨a, b, xs, ys, rfl, rfl, ha, hb, sz hl, fun e => q b H Kp.refl (by rw [e]; exact hb), fun _ e => q a H Kp.refl (by rw [e, List.append_nil]; exact ha), fun _ _ p hp => q p _ (Kp.new hp) (SqT.of upd_same)⟩
theorem repA {K : PySem.W.Frag} {l : Addr} {v : V} {n : Nat} {H : Hp} {Q : VK} (h : SqT K H l [v]) (hn : n ≤ 1000) (q : ∀ t H', Kp [] H H' → SqT K H' t (List.replicate n v) → Q (.ref t) H') : rRepT2 K (.ref l) (.int (n : Int)) H Q := by
  refine ⟨l, (n : Int), [v], rfl, rfl, h, by simp, by omega, by omega, by simp, fun e => q l H Kp.refl ?_, fun _ p hp => q p _ (Kp.new hp) (SqT.of ?_)⟩
  · have : n = 1 := by omega
    subst this; exact h
  · rw [upd_same]
    have : (List.replicate (n : Int).toNat [v]).flatten = List.replicate n v := by
      rw [Int.toNat_natCast]
      induction n with
      | zero => rfl
      | succ n ih => rw [List.replicate_succ, List.flatten_cons, List.replicate_succ]; simp
    rw [this]
section
variable {K : PySem.W.Frag} {H : Hp}
/-- ((s,), ((0,), (1,))) -/
theorem unit_fd {s : Str} {a1 a2 a3 a4 a5 : Addr} (h1 : H a1 = none) (h2 : upd H a1 (.tup [.str s]) a2 = none) (h3 : upd (upd H a1 (.tup [.str s])) a2 (.tup [.int 0]) a3 = none)
    (h4 : upd (upd (upd H a1 (.tup [.str s])) a2 (.tup [.int 0])) a3 (.tup [.int 1]) a4 = none) (h5 : upd (upd (upd (upd H a1 (.tup [.str s])) a2 (.tup [.int 0])) a3 (.tup [.int 1])) a4 (.tup [.ref a2, .ref a3]) a5 = none) :
    Kp [] H (upd (upd (upd (upd (upd H a1 (.tup [.str s])) a2 (.tup [.int 0])) a3 (.tup [.int 1])) a4 (.tup [.ref a2, .ref a3])) a5 (.tup [.ref a1, .ref a4])) ∧
    Fd K (upd (upd (upd (upd (upd H a1 (.tup [.str s])) a2 (.tup [.int 0])) a3 (.tup [.int 1])) a4 (.tup [.ref a2, .ref a3])) a5 (.tup [.ref a1, .ref a4])) 3 (.ref a5) (unitD s) := by
  have k1 : Kp [] H (upd H a1 (.tup [.str s])) := Kp.new h1
  have k2 := Kp.new (A := []) (o := .tup [.int 0]) h2
  have k3 := Kp.new (A := []) (o := .tup [.int 1]) h3
  have k4 := Kp.new (A := []) (o := .tup [.ref a2, .ref a3]) h4
  have k5 := Kp.new (A := []) (o := .tup [.ref a1, .ref a4]) h5
  refine ⟨k1.trans (k2.trans (k3.trans (k4.trans k5))), .tup (SqT.of upd_same) (.cons (nm_fd (r := [s]) ?_) (.cons (.tup (k5.sqT (SqT.of upd_same)) (.cons (row_fd (r := [0]) ?_) (.cons (row_fd (r := [1]) ?_) .nil))) .nil))⟩
  · exact (k2.trans (k3.trans (k4.trans k5))).sqT (SqT.of upd_same)
  · exact (k3.trans (k4.trans k5)).sqT (SqT.of upd_same)
  · exact (k4.trans k5).sqT (SqT.of upd_same)
theorem oneD_of {v : V} (h : Dv [] K H v oneD) : Fd K H 3 v oneD := by
  obtain ⟨a, xs, rfl, hs, ha⟩ := h.tup_inv
  cases ha with
  | cons h1 r => cases r with
    | cons h2 r => cases r with
      | cons h3 r =>
        cases r
        obtain ⟨a1, x1, rfl, s1, d1⟩ := h1.tup_inv
        obtain ⟨a2, x2, rfl, s2, d2⟩ := h2.tup_inv
        obtain ⟨a3, x3, rfl, s3, d3⟩ := h3.tup_inv
        cases d1
        rw [DvAll.ints (ss := [0, 1]) d3] at s3
        cases d2 with
        | cons g1 r => cases r with
          | cons g2 r =>
            cases r
            obtain ⟨b1, y1, rfl, t1, e1⟩ := g1.tup_inv
            obtain ⟨b2, y2, rfl, t2, e2⟩ := g2.tup_inv
            rw [DvAll.ints (ss := [1]) e1] at t1
            rw [DvAll.ints (ss := [-1]) e2] at t2
            exact .tup hs (.cons (.tup s1 .nil) (.cons (.tup s2 (.cons (row_fd (r := [1]) t1) (.cons (row_fd (r := [-1]) t2) .nil))) (.cons (row_fd (r := [0, 1]) s3) .nil)))
end
theorem eqv_never (p : Par) : PyData.eqv (parD p) (.tuple [.tuple [], .int 0, .int 1]) = decide (p = never) := by
  obtain ⟨ts, m, r⟩ := p
  cases ts with
  | nil =>
    rw [Bool.eq_iff_iff]
    simp [parD, prsD, PyData.eqv, PyData.eqvAll, never]
  | cons t ts =>
    simp [parD, prsD, PyData.eqv, PyData.eqvAll, never]

theorem odd_len {ts : List (Str × Int)} (h : ts.length ≤ 6) : (oddN ts).length ≤ 6 := Nat.le_trans wrong_len h
theorem flatten_le {α : Type} {k : Nat} : ∀ {xss : List (List α)}, (∀ xs ∈ xss, xs.length ≤ k) → xss.flatten.length ≤ k * xss.length
  | [], _ => by simp
  | xs :: xss, h => by
    have h1 := h xs (List.mem_cons_self ..)
    have h2 := flatten_le fun y hy => h y (List.mem_cons_of_mem _ hy)
    rw [List.flatten_cons, List.length_append, List.length_cons, Nat.mul_succ]; omega
theorem cut_strs (ns : List Str) (lo hi : Option Int) : ∃ ms : List Str, cutV (ns.map V.str) lo hi = ms.map V.str ∧ ms.Sublist ns := by
  refine ⟨(ns.drop (HT.sIx (ns.map V.str).length 0 lo)).take (HT.sIx (ns.map V.str).length (ns.map V.str).length hi - HT.sIx (ns.map V.str).length 0 lo), ?_, (List.take_sublist _ _).trans (List.drop_sublist _ _)⟩
  unfold cutV
  rw [List.map_take, List.map_drop]
theorem ne_src {H : Hp} {p s : Addr} (h : Src H s) (hp : H p = none) : p ≠ s := fun e => by
  subst e
  obtain ⟨_, _, e⟩ := h
  rw [hp] at e; cases e
def poolA : List Str := ["a", "a1", "b", "b.c", "c", "d", "x9", "zz"]
def poolB : List Str := ["a", "a1", "b", "b.c", "c", "d", "x9"]
def poolC : List Str := ["a", "a1", "b", "b.c", "c", "d"]
theorem poolA_len : ∀ t ∈ poolA, t.length ≤ 1000 := by decide +kernel
theorem poolB_nd : poolB.Nodup := by decide +kernel
/-- the first that is no parity, if there is one among those that are through -/
def BadAt (ps : List Par) (i : Nat) (v : V) : Prop := (v = .non ∧ ∀ (j : Nat) (q : Par), j < i → ps[j]? = some q → okP q = true) ∨
  ∃ (j : Nat) (q : Par), v = .int (j : Int) ∧ j < i ∧ ps[j]? = some q ∧ okP q = false ∧ ∀ (j' : Nat) (q' : Par), j' < j → ps[j']? = some q' → okP q' = true
theorem BadAt.ok {ps : List Par} {i : Nat} {v : V} {p : Par} (h : BadAt ps i v) (hp : ps[i]? = some p) (o : okP p = true) : BadAt ps (i + 1) v := by
  rcases h with ⟨e, h⟩ | ⟨j, q, e, hj, h1, h2, h3⟩
  · refine .inl ⟨e, fun j q hj hq => ?_⟩
    rcases Nat.lt_succ_iff_lt_or_eq.mp hj with z | z
    · exact h j q z hq
    · subst z; rw [hp] at hq; cases hq; exact o
  · exact .inr ⟨j, q, e, by omega, h1, h2, h3⟩
theorem BadAt.no {ps : List Par} {i : Nat} {p : Par} (h : BadAt ps i .non) (hp : ps[i]? = some p) (o : okP p = false) : BadAt ps (i + 1) (.int (i : Int)) := by
  rcases h with ⟨e, h⟩ | ⟨j, q, e, _⟩
  · exact .inr ⟨i, p, rfl, Nat.lt_succ_self i, hp, o, h⟩
  · cases e
theorem BadAt.old {ps : List Par} {i : Nat} {v : V} (h : BadAt ps i v) (n : v ≠ .non) : BadAt ps (i + 1) v := by
  rcases h with ⟨e, h⟩ | ⟨j, q, e, hj, h1, h2, h3⟩
  · exact absurd e n
  · exact .inr ⟨j, q, e, by omega, h1, h2, h3⟩
theorem flat_ok {ps : List Par} (h : ∀ p ∈ ps, okP p = true) : (ps.filter okP).flatMap clsP = ps.flatMap clsP := by
  rw [List.filter_eq_self.mpr h]
theorem tk_okT {ps : List Par} {i : Nat} {p : Par} (e : ps[i]? = some p) (o : okP p = true) : ((ps.take (i + 1)).filter okP).flatMap clsP = ((ps.take i).filter okP).flatMap clsP ++ clsP p := by
  rw [List.take_add_one, e, List.filter_append, List.flatMap_append]; simp [o]
theorem tk_okF {ps : List Par} {i : Nat} {p : Par} (e : ps[i]? = some p) (o : okP p = false) : ((ps.take (i + 1)).filter okP).flatMap clsP = ((ps.take i).filter okP).flatMap clsP := by
  rw [List.take_add_one, e, List.filter_append, List.flatMap_append]; simp [o]
theorem BadAt.at {ps : List Par} {v : V} {k : Nat} {r : Par} (h : BadAt ps ps.length v) (hr : ps[k]? = some r) (no : okP r = false) (hall : ∀ (j : Nat) (q : Par), j < k → ps[j]? = some q → okP q = true) : v = .int (k : Int) := by
  have kl := (List.getElem?_eq_some_iff.mp hr).1
  rcases h with ⟨_, h⟩ | ⟨j, q, e, hj, h1, h2, h3⟩
  · have := h k r kl hr
    rw [no] at this; cases this
  · rcases Nat.lt_trichotomy j k with z | z | z
    · have := hall j q z h1
      rw [h2] at this; cases this
    · rw [e, z]
    · have := h3 k r z hr
      rw [no] at this; cases this
theorem BadAt.none {ps : List Par} {v : V} (h : BadAt ps ps.length v) (hall : ∀ p ∈ ps, okP p = true) : v = .non := by
  rcases h with ⟨e, _⟩ | ⟨j, q, _, _, h1, h2, _⟩
  · exact e
  · have := hall q (List.mem_of_getElem? h1)
    rw [h2] at this; cases this
def topS (i : Nat) : Stmt := PySem.Challenge.pw_shadowlinks_k43_bridges_as_written.main.body.getD i (.Pass ⟨0, 0, 0, 0⟩)
def clsB : Stmt → List Stmt
  | .ClassDef (body := b) .. => b
  | _ => []
def topM (i j : Nat) : Stmt := (clsB (topS i)).getD j (.Pass ⟨0, 0, 0, 0⟩)
abbrev N_InvalidConstraint___init__ : List Str := ["self", "index"]
theorem sc_InvalidConstraint___init__ : FnScope N_InvalidConstraint___init__ ["self", "index"] (defScope (topM 5 0)) := ⟨rfl, rfl, rfl, by decide +kernel, rfl, by decide +kernel, by decide +kernel⟩
abbrev N_bit_rows : List Str := ["count", "rows", "_", "row", "value"]
theorem sc_bit_rows : FnScope N_bit_rows ["count"] (defScope (topS 1)) := ⟨rfl, rfl, rfl, by decide +kernel, rfl, by decide +kernel, by decide +kernel⟩
abbrev N_is_kept : List Str := ["clause", "values", "name", "sign"]
theorem sc_is_kept : FnScope N_is_kept ["clause", "values"] (defScope (topS 2)) := ⟨rfl, rfl, rfl, by decide +kernel, rfl, by decide +kernel, by decide +kernel⟩
abbrev N_clauses_of : List Str := ["terms", "rest", "odd", "clauses", "signs", "name", "coefficient", "sign"]
theorem sc_clauses_of : FnScope N_clauses_of ["terms", "rest"] (defScope (topS 8)) := ⟨rfl, rfl, rfl, by decide +kernel, rfl, by decide +kernel, by decide +kernel⟩
abbrev N_bits_of_parities : List Str := ["theory", "clauses", "k", "terms", "modulus", "rest"]
theorem sc_bits_of_parities : FnScope N_bits_of_parities ["theory"] (defScope (topS 9)) := ⟨rfl, rfl, rfl, by decide +kernel, rfl, by decide +kernel, by decide +kernel⟩
abbrev N_line_of : List Str := ["constraint", "x", "y", "bound", "terms", "name", "coefficient"]
theorem sc_line_of : FnScope N_line_of ["constraint"] (defScope (topS 11)) := ⟨rfl, rfl, rfl, by decide +kernel, rfl, by decide +kernel, by decide +kernel⟩
abbrev N_lines_of_steps : List Str := ["theory", "constraint"]
theorem sc_lines_of_steps : FnScope N_lines_of_steps ["theory"] (defScope (topS 12)) := ⟨rfl, rfl, rfl, by decide +kernel, rfl, by decide +kernel, by decide +kernel⟩
abbrev N_table_of : List Str := ["clause", "names", "rows", "row", "name", "_"]
theorem sc_table_of : FnScope N_table_of ["clause"] (defScope (topS 14)) := ⟨rfl, rfl, rfl, by decide +kernel, rfl, by decide +kernel, by decide +kernel⟩
abbrev N_rows_of_bits : List Str := ["theory", "names", "clauses", "tables", "name", "clause"]
theorem sc_rows_of_bits : FnScope N_rows_of_bits ["theory"] (defScope (topS 15)) := ⟨rfl, rfl, rfl, by decide +kernel, rfl, by decide +kernel, by decide +kernel⟩
abbrev N_machine_of : List Str := ["clause", "names", "first", "row", "name", "_"]
theorem sc_machine_of : FnScope N_machine_of ["clause"] (defScope (topS 18)) := ⟨rfl, rfl, rfl, by decide +kernel, rfl, by decide +kernel, by decide +kernel⟩
abbrev N_words_of_bits : List Str := ["theory", "names", "clauses", "clause"]
theorem sc_words_of_bits : FnScope N_words_of_bits ["theory"] (defScope (topS 19)) := ⟨rfl, rfl, rfl, by decide +kernel, rfl, by decide +kernel, by decide +kernel⟩
abbrev N__law_source : List Str := ["_law_script", "_law_k", "_law_number"]
theorem sc__law_source : FnScope N__law_source ["_law_script", "_law_k"] (defScope (topS 21)) := ⟨rfl, rfl, rfl, by decide +kernel, rfl, by decide +kernel, by decide +kernel⟩
abbrev N__law_draw : List Str := ["_law_source_here", "_law_limit", "_law_number", "_law_mixed"]
theorem sc__law_draw : FnScope N__law_draw ["_law_source_here", "_law_limit"] (defScope (topS 22)) := ⟨rfl, rfl, rfl, by decide +kernel, rfl, by decide +kernel, by decide +kernel⟩
abbrev N__law_some : List Str := ["_law_source_here", "_law_names", "_law_most", "_law_found", "_law_name"]
theorem sc__law_some : FnScope N__law_some ["_law_source_here", "_law_names", "_law_most"] (defScope (topS 23)) := ⟨rfl, rfl, rfl, by decide +kernel, rfl, by decide +kernel, by decide +kernel⟩
abbrev N__law_bound : List Str := ["_law_source_here"]
theorem sc__law_bound : FnScope N__law_bound ["_law_source_here"] (defScope (topS 24)) := ⟨rfl, rfl, rfl, by decide +kernel, rfl, by decide +kernel, by decide +kernel⟩
abbrev N__law_constraint : List Str := ["_law_source_here", "_law_names", "_law_ends", "_law_x", "_law_y"]
theorem sc__law_constraint : FnScope N__law_constraint ["_law_source_here", "_law_names"] (defScope (topS 25)) := ⟨rfl, rfl, rfl, by decide +kernel, rfl, by decide +kernel, by decide +kernel⟩
abbrev N__law_theory : List Str := ["_law_source_here", "_law_pool", "_law_names", "_law_constraints", "_law_k"]
theorem sc__law_theory : FnScope N__law_theory ["_law_source_here"] (defScope (topS 26)) := ⟨rfl, rfl, rfl, by decide +kernel, rfl, by decide +kernel, by decide +kernel⟩
abbrev N__law_bit_rows : List Str := ["_law_count", "_law_rows", "_law_k", "_law_longer", "_law_row", "_law_value"]
theorem sc__law_bit_rows : FnScope N__law_bit_rows ["_law_count"] (defScope (topS 27)) := ⟨rfl, rfl, rfl, by decide +kernel, rfl, by decide +kernel, by decide +kernel⟩
abbrev N__law_clause : List Str := ["_law_source_here", "_law_names", "_law_clause_here", "_law_sparse", "_law_name", "_law_choice"]
theorem sc__law_clause : FnScope N__law_clause ["_law_source_here", "_law_names"] (defScope (topS 28)) := ⟨rfl, rfl, rfl, by decide +kernel, rfl, by decide +kernel, by decide +kernel⟩
abbrev N__law_bits : List Str := ["_law_source_here", "_law_most", "_law_pool", "_law_names", "_law_clauses_here", "_law_k"]
theorem sc__law_bits : FnScope N__law_bits ["_law_source_here", "_law_most"] (defScope (topS 29)) := ⟨rfl, rfl, rfl, by decide +kernel, rfl, by decide +kernel, by decide +kernel⟩
abbrev N__law_whole_numbers : List Str := ["_law_value", "_law_item"]
theorem sc__law_whole_numbers : FnScope N__law_whole_numbers ["_law_value"] (defScope (topS 30)) := ⟨rfl, rfl, rfl, by decide +kernel, rfl, by decide +kernel, by decide +kernel⟩
abbrev N__law_same : List Str := ["_law_actual", "_law_expected"]
theorem sc__law_same : FnScope N__law_same ["_law_actual", "_law_expected"] (defScope (topS 31)) := ⟨rfl, rfl, rfl, by decide +kernel, rfl, by decide +kernel, by decide +kernel⟩
abbrev N__law_kept : List Str := ["_law_clause_here", "_law_row", "_law_k"]
theorem sc__law_kept : FnScope N__law_kept ["_law_clause_here", "_law_row"] (defScope (topS 32)) := ⟨rfl, rfl, rfl, by decide +kernel, rfl, by decide +kernel, by decide +kernel⟩
abbrev N__law_tables : List Str := ["_law_theory_here", "_law_tables_here", "_law_clause_here", "_law_rows", "_law_name", "_law_row", "_law_literal"]
theorem sc__law_tables : FnScope N__law_tables ["_law_theory_here"] (defScope (topS 33)) := ⟨rfl, rfl, rfl, by decide +kernel, rfl, by decide +kernel, by decide +kernel⟩
abbrev N__law_machines : List Str := ["_law_theory_here", "_law_machines_here", "_law_clause_here", "_law_first", "_law_last", "_law_row", "_law_move", "_law_names", "_law_literal"]
theorem sc__law_machines : FnScope N__law_machines ["_law_theory_here"] (defScope (topS 34)) := ⟨rfl, rfl, rfl, by decide +kernel, rfl, by decide +kernel, by decide +kernel⟩
abbrev N__law_lines : List Str := ["_law_theory_here", "_law_lines_here", "_law_constraint_here", "_law_terms"]
theorem sc__law_lines : FnScope N__law_lines ["_law_theory_here"] (defScope (topS 35)) := ⟨rfl, rfl, rfl, by decide +kernel, rfl, by decide +kernel, by decide +kernel⟩
abbrev N__law_parity : List Str := ["_law_source_here", "_law_names", "_law_choice", "_law_terms", "_law_name", "_law_coefficient", "_law_rest"]
theorem sc__law_parity : FnScope N__law_parity ["_law_source_here", "_law_names"] (defScope (topS 36)) := ⟨rfl, rfl, rfl, by decide +kernel, rfl, by decide +kernel, by decide +kernel⟩
abbrev N__law_clauses : List Str := ["_law_parity_here", "_law_odd", "_law_clauses_here", "_law_signs", "_law_total", "_law_sign", "_law_term", "_law_k"]
theorem sc__law_clauses : FnScope N__law_clauses ["_law_parity_here"] (defScope (topS 37)) := ⟨rfl, rfl, rfl, by decide +kernel, rfl, by decide +kernel, by decide +kernel⟩
abbrev N__law_parities_right : List Str := ["_law_source_here", "_law_names", "_law_parities", "_law_k", "_law_bad", "_law_clauses_here", "_law_theory_here", "_law_actual", "e"]
theorem sc__law_parities_right : FnScope N__law_parities_right ["_law_source_here"] (defScope (topS 38)) := ⟨rfl, rfl, rfl, by decide +kernel, rfl, by decide +kernel, by decide +kernel⟩
abbrev N_law : List Str := ["_law_script", "_law_theory_here"]
theorem sc_law : FnScope N_law ["_law_script"] (defScope (topS 39)) := ⟨rfl, rfl, rfl, by decide +kernel, rfl, by decide +kernel, by decide +kernel⟩
structure Txt (K : PySem.W.Frag) (mg : Str → Option Value) (A : Nat → Addr) (D : Nat → FuncData) : Prop where
  g_ShadowError : mg "ShadowError" = some (.ref (A 4))
  g_InvalidConstraint : mg "InvalidConstraint" = some (.ref (A 5))
  E_InvalidConstraint : ErrK K mg "InvalidConstraint" "index" (A 5) (A 1100) "InvalidConstraint.__init__" (topM 5 0) (D 1100)
  x_InvalidConstraint_ShadowError : PySem.W.exmOne K (.ref (A 5)) (.ref (A 4)) = some true
  k_InvalidConstraint_ShadowError : PySem.W.kitOne K (.ref (A 5)) (.ref (A 4)) = some true
  x_InvalidConstraint_InvalidConstraint : PySem.W.exmOne K (.ref (A 5)) (.ref (A 5)) = some true
  k_InvalidConstraint_InvalidConstraint : PySem.W.kitOne K (.ref (A 5)) (.ref (A 5)) = some true
  kv_InvalidConstraint : PySem.W.kitOne K (.ref (A 5)) (.type "ValueError") = some true
  S_InvalidConstraint : SeI K (A 4) (.type "type")
  F_bit_rows : Fun K "bit_rows" "bit_rows" (topS 1) (A 1) (D 1)
  g_bit_rows : mg "bit_rows" = some (.ref (A 1))
  b_bit_rows : Binds K (D 1) ["count"] []
  F_is_kept : Fun K "is_kept" "is_kept" (topS 2) (A 2) (D 2)
  g_is_kept : mg "is_kept" = some (.ref (A 2))
  b_is_kept : Binds K (D 2) ["clause", "values"] []
  F_clauses_of : Fun K "clauses_of" "clauses_of" (topS 8) (A 8) (D 8)
  g_clauses_of : mg "clauses_of" = some (.ref (A 8))
  b_clauses_of : Binds K (D 8) ["terms", "rest"] []
  F_bits_of_parities : Fun K "bits_of_parities" "bits_of_parities" (topS 9) (A 9) (D 9)
  g_bits_of_parities : mg "bits_of_parities" = some (.ref (A 9))
  b_bits_of_parities : Binds K (D 9) ["theory"] []
  F_line_of : Fun K "line_of" "line_of" (topS 11) (A 11) (D 11)
  g_line_of : mg "line_of" = some (.ref (A 11))
  b_line_of : Binds K (D 11) ["constraint"] []
  F_lines_of_steps : Fun K "lines_of_steps" "lines_of_steps" (topS 12) (A 12) (D 12)
  g_lines_of_steps : mg "lines_of_steps" = some (.ref (A 12))
  b_lines_of_steps : Binds K (D 12) ["theory"] []
  F_table_of : Fun K "table_of" "table_of" (topS 14) (A 14) (D 14)
  g_table_of : mg "table_of" = some (.ref (A 14))
  b_table_of : Binds K (D 14) ["clause"] []
  F_rows_of_bits : Fun K "rows_of_bits" "rows_of_bits" (topS 15) (A 15) (D 15)
  g_rows_of_bits : mg "rows_of_bits" = some (.ref (A 15))
  b_rows_of_bits : Binds K (D 15) ["theory"] []
  F_machine_of : Fun K "machine_of" "machine_of" (topS 18) (A 18) (D 18)
  g_machine_of : mg "machine_of" = some (.ref (A 18))
  b_machine_of : Binds K (D 18) ["clause"] []
  F_words_of_bits : Fun K "words_of_bits" "words_of_bits" (topS 19) (A 19) (D 19)
  g_words_of_bits : mg "words_of_bits" = some (.ref (A 19))
  b_words_of_bits : Binds K (D 19) ["theory"] []
  F__law_source : Fun K "_law_source" "_law_source" (topS 21) (A 21) (D 21)
  g__law_source : mg "_law_source" = some (.ref (A 21))
  b__law_source : Binds K (D 21) ["_law_script", "_law_k"] []
  F__law_draw : Fun K "_law_draw" "_law_draw" (topS 22) (A 22) (D 22)
  g__law_draw : mg "_law_draw" = some (.ref (A 22))
  b__law_draw : Binds K (D 22) ["_law_source_here", "_law_limit"] []
  F__law_some : Fun K "_law_some" "_law_some" (topS 23) (A 23) (D 23)
  g__law_some : mg "_law_some" = some (.ref (A 23))
  b__law_some : Binds K (D 23) ["_law_source_here", "_law_names", "_law_most"] []
  F__law_bound : Fun K "_law_bound" "_law_bound" (topS 24) (A 24) (D 24)
  g__law_bound : mg "_law_bound" = some (.ref (A 24))
  b__law_bound : Binds K (D 24) ["_law_source_here"] []
  F__law_constraint : Fun K "_law_constraint" "_law_constraint" (topS 25) (A 25) (D 25)
  g__law_constraint : mg "_law_constraint" = some (.ref (A 25))
  b__law_constraint : Binds K (D 25) ["_law_source_here", "_law_names"] []
  F__law_theory : Fun K "_law_theory" "_law_theory" (topS 26) (A 26) (D 26)
  g__law_theory : mg "_law_theory" = some (.ref (A 26))
  b__law_theory : Binds K (D 26) ["_law_source_here"] []
  F__law_bit_rows : Fun K "_law_bit_rows" "_law_bit_rows" (topS 27) (A 27) (D 27)
  g__law_bit_rows : mg "_law_bit_rows" = some (.ref (A 27))
  b__law_bit_rows : Binds K (D 27) ["_law_count"] []
  F__law_clause : Fun K "_law_clause" "_law_clause" (topS 28) (A 28) (D 28)
  g__law_clause : mg "_law_clause" = some (.ref (A 28))
  b__law_clause : Binds K (D 28) ["_law_source_here", "_law_names"] []
  F__law_bits : Fun K "_law_bits" "_law_bits" (topS 29) (A 29) (D 29)
  g__law_bits : mg "_law_bits" = some (.ref (A 29))
  b__law_bits : Binds K (D 29) ["_law_source_here", "_law_most"] []
  F__law_whole_numbers : Fun K "_law_whole_numbers" "_law_whole_numbers" (topS 30) (A 30) (D 30)
  g__law_whole_numbers : mg "_law_whole_numbers" = some (.ref (A 30))
  b__law_whole_numbers : Binds K (D 30) ["_law_value"] []
  F__law_same : Fun K "_law_same" "_law_same" (topS 31) (A 31) (D 31)
  g__law_same : mg "_law_same" = some (.ref (A 31))
  b__law_same : Binds K (D 31) ["_law_actual", "_law_expected"] []
  F__law_kept : Fun K "_law_kept" "_law_kept" (topS 32) (A 32) (D 32)
  g__law_kept : mg "_law_kept" = some (.ref (A 32))
  b__law_kept : Binds K (D 32) ["_law_clause_here", "_law_row"] []
  F__law_tables : Fun K "_law_tables" "_law_tables" (topS 33) (A 33) (D 33)
  g__law_tables : mg "_law_tables" = some (.ref (A 33))
  b__law_tables : Binds K (D 33) ["_law_theory_here"] []
  F__law_machines : Fun K "_law_machines" "_law_machines" (topS 34) (A 34) (D 34)
  g__law_machines : mg "_law_machines" = some (.ref (A 34))
  b__law_machines : Binds K (D 34) ["_law_theory_here"] []
  F__law_lines : Fun K "_law_lines" "_law_lines" (topS 35) (A 35) (D 35)
  g__law_lines : mg "_law_lines" = some (.ref (A 35))
  b__law_lines : Binds K (D 35) ["_law_theory_here"] []
  F__law_parity : Fun K "_law_parity" "_law_parity" (topS 36) (A 36) (D 36)
  g__law_parity : mg "_law_parity" = some (.ref (A 36))
  b__law_parity : Binds K (D 36) ["_law_source_here", "_law_names"] []
  F__law_clauses : Fun K "_law_clauses" "_law_clauses" (topS 37) (A 37) (D 37)
  g__law_clauses : mg "_law_clauses" = some (.ref (A 37))
  b__law_clauses : Binds K (D 37) ["_law_parity_here"] []
  F__law_parities_right : Fun K "_law_parities_right" "_law_parities_right" (topS 38) (A 38) (D 38)
  g__law_parities_right : mg "_law_parities_right" = some (.ref (A 38))
  b__law_parities_right : Binds K (D 38) ["_law_source_here"] []
  F_law : Fun K "law" "law" (topS 39) (A 39) (D 39)
  g_law : mg "law" = some (.ref (A 39))
  b_law : Binds K (D 39) ["_law_script"] []
  z_len : mg "len" = none
  z_int : mg "int" = none
  z_str : mg "str" = none
  z_bool : mg "bool" = none
  z_list : mg "list" = none
  z_tuple : mg "tuple" = none
  z_dict : mg "dict" = none
  z_range : mg "range" = none
  z_zip : mg "zip" = none
  z_sorted : mg "sorted" = none
  z_isinstance : mg "isinstance" = none
  z_sum : mg "sum" = none
  z_ValueError : mg "ValueError" = none
  g_NEVER : mg "NEVER" = some (.ref (A 7))
  d_NEVER : ∀ (B : List Addr) (H : Hp), Dv B K H (.ref (A 7)) (.tuple [(.tuple []), (.int (0)), (.int (1))])
  g_ONE_LETTER : mg "ONE_LETTER" = some (.ref (A 17))
  d_ONE_LETTER : ∀ (B : List Addr) (H : Hp), Dv B K H (.ref (A 17)) (.tuple [(.tuple []), (.tuple [(.tuple [(.int (1))]), (.tuple [(.int (-1))])]), (.tuple [(.int (0)), (.int (1))])])
section
variable {P : Program} {w : World} {K : PySem.W.Frag} {mg : Str → Option Value} {base : Heap} {A : Nat → Addr} {D : Nat → FuncData}
def sp__law_source (K : PySem.W.Frag) : Sp := fun vs H Q _ => ∃ (a : Addr) (ns : List Int) (k : Nat), vs = [.ref a, .int (k : Int)] ∧ SqL K H a (ns.map V.int) ∧ ns.length ≤ 63 ∧
  ∀ p H', H p = none → Kp [] H H' → Src H' p → Q (.ref p) H'
theorem ok__law_source (T : Txt K mg A D) : FnOk P w K mg base CX0 1 (A 21) (D 21) ["_law_script", "_law_k"] (sp__law_source K) := by
  refine T.F__law_source.ok sc__law_source (fun vs H Q E h => ?_) (fun cdv A' outer s H vs Q E hr h => ?_)
  · obtain ⟨a, ns, k, rfl, hS, hl, q⟩ := h
    rfl
  · obtain ⟨a, ns, k, rfl, hS, hl, q⟩ := h
    have hu := hu_of hr
    refine ⟨_, (pss_cons (ps_set (i := 2) sc__law_source.nd rfl (Or.inl rfl) pe_int)
      (pss_cons (ps_if (pt_cmpR op_lt (pv 1) (pe_callB (id := "len") (cK_len (K := K) rfl) (by rfl) T.z_len (by decide +kernel) (pa_cons (pv 0) pa_nil)) (nomark _))
        (pss_one (ps_set (i := 2) sc__law_source.nd rfl (Or.inl rfl) (pe_callTy (T := "int") call_int1 (by rfl) T.z_int (by decide +kernel) (pa_cons (pe_ix (xK_list (K := K) rfl) (pv 0) (pv 1) (fun _ _ => rfl)) pa_nil))))
        pss_nil)
      (pss_one (ps_ret (pe_lst (pa_cons (pv 2) (pa_cons (pe_op op_add (pe_op op_mul pe_int (pv 1)) (pe_callB (id := "len") (cK_len (K := K) rfl) (by rfl) T.z_len (by decide +kernel) (pa_cons (pv 0) pa_nil))) pa_nil))))))), ?_⟩
    -- _law_number = 0; if _law_k < len(_law_script)
    refine ⟨_, rfl, _, rfl, _, ns.length, rfl, .inl ⟨_, hS, by rw [List.length_map]⟩, _, _, rfl, rfl, _, rfl, ?_⟩
    refine ite2 (fun c => ?_) (fun c => ?_)
    · have hk : k < ns.length := by simpa using c
      refine ⟨_, rfl, _, rfl, _, _, _, .int ns[k], rfl, rfl, hS, atI_nat (by simp [hk]), .inl ⟨_, rfl, ?_⟩⟩
      refine ⟨_, rfl, _, rfl, _, _, rfl, rfl, .inl ⟨by decide, by decide⟩, _, rfl, _, ns.length, rfl, .inl ⟨_, hS, by rw [List.length_map]⟩, _, _, rfl, rfl, sz (by simp), fun p hp => ?_⟩
      exact q p _ hp (Kp.new hp) ⟨_, _, upd_same⟩
    · refine ⟨_, rfl, _, rfl, _, _, rfl, rfl, .inl ⟨by decide, by decide⟩, _, rfl, _, ns.length, rfl, .inl ⟨_, hS, by rw [List.length_map]⟩, _, _, rfl, rfl, sz (by simp), fun p hp => ?_⟩
      exact q p _ hp (Kp.new hp) ⟨_, _, upd_same⟩
def sp__law_draw (K : PySem.W.Frag) : Sp := fun vs H Q _ => ∃ (a : Addr) (lim : Int), vs = [.ref a, .int lim] ∧ Src H a ∧ 0 < lim ∧ lim < 1073741824 ∧
  ∀ (r : Int) H', 0 ≤ r → r < lim → Kp [a] H H' → Src H' a → Q (.int r) H'
theorem ok__law_draw (T : Txt K mg A D) : FnOk P w K mg base CX0 1 (A 22) (D 22) ["_law_source_here", "_law_limit"] (sp__law_draw K) := by
  refine T.F__law_draw.ok sc__law_draw (fun vs H Q E h => ?_) (fun cdv A' outer s H vs Q E hr h => ?_)
  · obtain ⟨a, lim, rfl, ⟨n, c, hs⟩, h0, h1, q⟩ := h
    rfl
  · obtain ⟨a, lim, rfl, ⟨n, c, hs⟩, h0, h1, q⟩ := h
    have hu := hu_of hr
    refine ⟨_, (pss_cons (ps_set (i := 2) sc__law_draw.nd rfl (Or.inl rfl) (pe_ix (xK_list (K := K) rfl) (pv 0) pe_int (fun _ _ => rfl)))
      (pss_cons (ps_if (pt_cmpR op_ge (pv 2) (pe_op op_pow pe_int pe_int) (nomark _))
        (pss_cons (ps_asg (pe_op op_fdiv (pv 2) (pv 1)) (pg_sub (pv 0) pe_int set_list))
        (pss_one (ps_ret (pe_op op_mod (pe_callTy (T := "int") call_int1 (by rfl) T.z_int (by decide +kernel) (pa_cons (pv 2) pa_nil)) (pv 1)))))
        pss_nil)
      (pss_cons (ps_asg (pe_op op_add (pe_ix (xK_list (K := K) rfl) (pv 0) pe_int (fun _ _ => rfl)) pe_int) (pg_sub (pv 0) pe_int set_list))
      (pss_cons (ps_set (i := 3) sc__law_draw.nd rfl (Or.inl rfl) (pe_op op_mod (pe_callTy (T := "int") call_int1 (by rfl) T.z_int (by decide +kernel) (pa_cons (pe_op op_add (pe_op op_add (pe_op op_mul (pv 2) pe_int) (pe_op op_mul (pe_ix (xK_list (K := K) rfl) (pv 0) pe_int (fun _ _ => rfl)) pe_int)) pe_int) pa_nil)) pe_int))
      (pss_cons (ps_set (i := 3) sc__law_draw.nd rfl (Or.inl rfl) (pe_op op_mod (pe_callTy (T := "int") call_int1 (by rfl) T.z_int (by decide +kernel) (pa_cons (pe_op op_add (pe_op op_add (pe_op op_mul (pv 3) (pv 3)) (pv 2)) (pe_op op_mul (pe_ix (xK_list (K := K) rfl) (pv 0) pe_int (fun _ _ => rfl)) pe_int)) pa_nil)) pe_int))
      (pss_cons (ps_set (i := 3) sc__law_draw.nd rfl (Or.inl rfl) (pe_op op_mod (pe_callTy (T := "int") call_int1 (by rfl) T.z_int (by decide +kernel) (pa_cons (pe_op op_add (pe_op op_add (pe_op op_mul (pv 3) (pv 3)) (pe_op op_fdiv (pv 3) pe_int)) pe_int) pa_nil)) pe_int))
      (pss_one (ps_ret (pe_op op_mod (pe_op op_fdiv (pe_callTy (T := "int") call_int1 (by rfl) T.z_int (by decide +kernel) (pa_cons (pv 3) pa_nil)) pe_int) (pv 1)))))))))), ?_⟩
    walk_at "rds"
    refine ⟨⟨by decide, by decide, by decide⟩, ?_⟩
    walk_at "rds"
    have kp : ∀ o, Kp [a] H (upd H a o) := fun o => Kp.own hs rfl (by simp)
    refine ite2 (fun _ => ?_) (fun _ => ?_)
    · refine ⟨_, rfl, _, rfl, _, _, rfl, rfl, ⟨h0, h1⟩, _, rfl, a, _, _, 0, rfl, rfl, hs, rfl, ?_⟩
      refine ⟨_, rfl, .inl ⟨_, rfl, _, rfl, _, _, rfl, rfl, h0, ?_⟩⟩
      exact q _ _ (Int.emod_nonneg _ (by omega)) (Int.emod_lt_of_pos _ h0) (kp _) ⟨_, _, upd_same⟩
    · have e1 : SqL K H a [.int n, .int c] := SqL.of hs
      refine ⟨_, rfl, _, _, _, _, rfl, rfl, e1, rfl, _, _, rfl, rfl, _, rfl, a, _, _, 1, rfl, rfl, hs, rfl, ?_⟩
      have e2 : SqL K (upd H a (.lst [.int n, .int (c + 1)])) a [.int n, .int (c + 1)] := SqL.of upd_same
      refine ⟨_, rfl, _, _, rfl, rfl, .inr ⟨by decide, by decide⟩, _, rfl, _, _, _, _, rfl, rfl, e2, rfl, _, _, rfl, rfl, .inr ⟨by decide, by decide⟩, _, _, rfl, rfl, _, _, rfl, rfl, .inl ⟨_, rfl, _, _, rfl, rfl, (by show (0 : Int) < _; decide), ?_⟩⟩
      refine ⟨_, rfl, _, rfl, _, _, rfl, rfl, .inl ⟨by omega, by omega⟩, _, rfl, _, _, rfl, rfl, _, rfl, _, _, _, _, rfl, rfl, e2, rfl, _, _, rfl, rfl, .inr ⟨by decide, by decide⟩, _, _, rfl, rfl, .inl ⟨_, rfl, _, _, rfl, rfl, (by show (0 : Int) < _; decide), ?_⟩⟩
      refine ⟨_, rfl, _, rfl, _, _, rfl, rfl, .inl ⟨by omega, by omega⟩, _, rfl, _, _, rfl, rfl, ⟨by decide, by decide⟩, _, _, rfl, rfl, _, _, rfl, rfl, .inl ⟨_, rfl, _, _, rfl, rfl, (by show (0 : Int) < _; decide), ?_⟩⟩
      refine ⟨_, rfl, .inl ⟨_, rfl, _, _, rfl, rfl, ⟨by decide, by decide⟩, _, rfl, _, _, rfl, rfl, h0, ?_⟩⟩
      exact q _ _ (Int.emod_nonneg _ (by omega)) (Int.emod_lt_of_pos _ h0) (kp _) ⟨_, _, upd_same⟩
theorem ok_InvalidConstraint__init (T : Txt K mg A D) : FnOk P w K mg base CX0 1 (A 1100) (D 1100) ["self", "index"] (sp_err (A 5) "index") := by
  refine T.E_InvalidConstraint.F.ok sc_InvalidConstraint___init__ (fun vs H Q E h => ?_) (fun cdv A' outer s H vs Q E hr h => ?_)
  · obtain ⟨a, v, rfl, _⟩ := h
    rfl
  · obtain ⟨a, v, rfl, ha, q⟩ := h
    refine ⟨_, (pss_cons (ps_expr (pe_seinit T.S_InvalidConstraint rfl T.g_ShadowError (pa_cons (pv 0) (pa_cons pe_str pa_nil)))) (pss_one (ps_ost (pv 0) (pv 1)))), ?_⟩
    refine ⟨_, rfl, a, _, _, rfl, by simp, T.E_InvalidConstraint.oex, ha, ?_⟩
    exact ⟨_, rfl, _, rfl, a, _, rfl, T.E_InvalidConstraint.oex, T.E_InvalidConstraint.no, .inl ⟨ha, fun dx hdx ne => q dx hdx ne⟩⟩
def sp_bit_rows (K : PySem.W.Frag) : Sp := fun vs H Q _ => ∃ n : Nat, vs = [.int (n : Int)] ∧ n ≤ 6 ∧ ∀ t xs H', Kp [] H H' → SqT K H' t xs → FdAll K H' 1 xs ((bitR n).map rowD) → Q (.ref t) H'
theorem ok_bit_rows (T : Txt K mg A D) : FnOk P w K mg base CX0 1 (A 1) (D 1) ["count"] (sp_bit_rows K) := by
  refine T.F_bit_rows.ok sc_bit_rows (fun vs H Q E h => ?_) (fun cdv A' outer s H vs Q E hr h => ?_)
  · obtain ⟨n, rfl, hn, q⟩ := h
    rfl
  · obtain ⟨n, rfl, hn, q⟩ := h
    have hu := hu_of hr
    refine ⟨_, (pss_cons (ps_set (i := 1) sc_bit_rows.nd rfl (Or.inl rfl) (pe_lst (pa_cons (pe_tup pa_nil) pa_nil)))
      (pss_cons (ps_for PassesOwn.never rfl (pi_range1 rfl T.z_range (pa_cons (pv 0) pa_nil)) (pg_name (i := 2) sc_bit_rows.nd rfl (Or.inl rfl))
        (pss_one (ps_setLc2 (i := 1) (own := [("row", 3), ("value", 4)]) (vs1 := [4]) (tt := tYes) (tt1 := tYes) rfl sc_bit_rows.nd rfl rfl (sw_true rfl rfl rfl (by decide +kernel))  (iK_list (K := K) rfl (pv 1)) (blkOk_by (N := N_bit_rows) (sc := defScope (topS 1)) (by decide +kernel)) (by decide) (fun _ _ _ _ _ => (pg_name (i := 3) sc_bit_rows.nd rfl (Or.inl rfl))) (fun _ _ _ _ _ => pts_nil) (fun _ _ _ _ _ => (iK_tup (K := K) rfl (pe_tup (pa_cons pe_int (pa_cons pe_int pa_nil))))) (fun _ _ _ _ _ => (pg_name (i := 4) sc_bit_rows.nd rfl (Or.inl rfl))) (fun _ _ _ _ _ => pts_nil) (fun _ _ _ _ _ => (pe_op (oK_catA (K := K) rfl) (pv 3) (pe_tup (pa_cons (pv 4) pa_nil)))))))
      (pss_one (ps_ret (pe_callTy (T := "tuple") (cK_tuple (K := K) rfl) (by rfl) T.z_tuple (by decide +kernel) (pa_cons (pv 1) pa_nil)))))), ?_⟩
    have e0 : bitR 0 = [[]] := rfl
    walk_at "st"
    refine ⟨sz (by simp), fun t0 ht0 => ⟨sz (by simp), fun p0 hp0 => ?_⟩⟩
    have k0 : Kp [] H (upd (upd H t0 (.tup [])) p0 (.lst [.ref t0])) := (Kp.new ht0).trans (Kp.new hp0)
    refine seq_forK ⟨_, rfl, _, rfl, by omega, by omega, for_seq walk_range (fun i σ H' => ∃ (l : Addr) (xs : List V) (v2 : Option V), σ = [some (.int (n : Int)), some (.ref l), v2, none, none] ∧ Kp [] H H' ∧ H' l = some (.lst xs) ∧ FdAll K H' 1 xs ((bitR i).map rowD))
      ⟨p0, [.ref t0], none, rfl, k0, upd_same, .cons (.tup ((Kp.new (A := []) hp0).sqT (SqT.of upd_same)) .nil) .nil⟩ (fun _ _ _ _ _ => trivial) ?_ ?_⟩
    · rintro i v σ H1 H2 hi ⟨l, xs, v2, rfl, k1, h1, a1⟩ ⟨rfl, rfl⟩
      have hi' : i < n := hi
      have sm := bitR_small (n := i) (by omega)
      refine gnK ?_
      refine setK ?_
      refine ⟨_, rfl, _, rfl, ⟨_, SqL.of h1⟩, fun D hD => lc2_it walk_list (fun k H' => PvF [] K 1 H2 D ((((bitR i).take k).flatMap extR).map rowD) H') (pvF_0 hD) (fun k H' _ z => z.kp.sqL List.not_mem_nil (SqL.of h1)) ?_ ?_⟩
      · rintro k v H3 H4 hk pv ⟨rfl, hv⟩
        obtain ⟨r, hr, fr⟩ := a1.atm hv
        have hln : (((bitR i).take k).flatMap extR).length ≤ 128 := by rw [ext_len, List.length_take]; omega
        refine gnK ⟨rfl, ?_⟩
        refine yesK ?_
        refine iteT ?_
        refine ⟨sz (by simp), fun t ht => ?_⟩
        refine ⟨t, rfl, ⟨_, SqT.of upd_same⟩, ?_⟩
        have kt : Kp [] H4 (upd H4 t (.tup [.int 0, .int 1])) := Kp.new ht
        refine lc2_in (walk_tup (xs := [.int 0, .int 1])) (fun j H' => PvF [] K 1 H2 D ((((bitR i).take k).flatMap extR ++ (extR r).take j).map rowD) H' ∧ Kp [D] (upd H4 t (.tup [.int 0, .int 1])) H') ⟨(pv.skip kt List.not_mem_nil).to (by simp), Kp.refl⟩ (fun j H' _ z => z.2.sqT (SqT.of upd_same)) ?_ ?_
        · rintro j w H5 H6 hj ⟨pv5, k5⟩ ⟨rfl, hw⟩
          obtain ⟨b, rfl, hb⟩ : ∃ b : Int, w = .int b ∧ (extR r)[j]? = some (r ++ [b]) := by
            have hj' : j = 0 ∨ j = 1 := by have : j < 2 := hj; omega
            rcases hj' with e | e <;> subst e <;> cases hw
            · exact ⟨0, rfl, rfl⟩
            · exact ⟨1, rfl, rfl⟩
          refine gnK ⟨rfl, ?_⟩
          refine yesK ?_
          refine iteT ?_
          obtain ⟨a, rfl, sa⟩ := rowD_inv (fr.kp pv5.kp)
          refine ⟨_, rfl, _, rfl, sz (by simp), fun q hq => ?_⟩
          have kq : Kp [] H6 (upd H6 q (.tup [.int b])) := Kp.new hq
          have lr := bitR_len (List.mem_of_getElem? hr)
          refine catA (kq.sqT sa) (SqT.of upd_same) (by simp [lr]; omega) fun u H7 ku0 su => ?_
          have ku := kq.trans ku0
          obtain ⟨acc, c1, c2, c3⟩ := pv5.step ku List.not_mem_nil hD (by rw [List.length_map, List.length_append]; have := List.length_take_le' j (extR r); have : (extR r).length = 2 := rfl; omega) (row_fd (r := r ++ [b]) (n := 0) (a := u) (by rw [List.map_append]; exact su))
          refine ⟨acc, c1, c2, c3.to ?_, (k5.trans ku.nil).trans (Kp.own c1 rfl (by simp))⟩
          rw [← List.map_singleton (f := rowD), ← List.map_append, List.append_assoc, List.take_add_one, hb]; rfl
        · rintro H5 ⟨pv5, _⟩
          refine pv5.to ?_
          rw [tk_flat hr]; rfl
      · rintro H3 pv
        obtain ⟨acc, c1, c2⟩ := pv.ex
        refine ⟨D, acc, _, rfl, k1.trans pv.kp, c1, ?_⟩
        rw [a1.length, List.length_map, List.take_length] at c2
        rw [bitR_succ]
        exact c2
    · rintro σ H1 ⟨l, xs, v2, rfl, k1, h1, a1⟩
      walk_at "st"
      refine ⟨_, rfl, l, xs, rfl, .inl ⟨SqL.of h1, fun t ht => ?_⟩⟩
      exact q t xs _ (k1.trans (Kp.new ht)) (SqT.of upd_same) (a1.kp (Kp.new (A := []) ht))
def sp_is_kept (K : PySem.W.Frag) : Sp := fun vs H Q _ => ∃ (v : V) (cl : List (Str × Int)) (d : Addr) (r : List Int), vs = [v, .ref d] ∧ Fd K H 2 v (prsD cl) ∧ H d = some (.dK (kvZ (cl.map (·.1)) (r.map V.int))) ∧ (cl.map (·.1)).Nodup ∧ r.length = cl.length ∧ Q (.bl (keptB cl r)) H
theorem ok_is_kept (T : Txt K mg A D) : FnOk P w K mg base CX0 1 (A 2) (D 2) ["clause", "values"] (sp_is_kept K) := by
  refine T.F_is_kept.ok sc_is_kept (fun vs H Q E h => ?_) (fun cdv A' outer s H vs Q E hr h => ?_)
  · obtain ⟨v, cl, d, r, rfl, hv, hd, nd, hl, q⟩ := h
    rfl
  · obtain ⟨v, cl, d, r, rfl, hv, hd, nd, hl, q⟩ := h
    have hu := hu_of hr
    refine ⟨_, (pss_cons (ps_for PassesOwn.never rfl (iK_tup (K := K) rfl (pv 0)) (gK_tup (K := K) 2 rfl rfl (pgs_cons (pg_name (i := 2) sc_is_kept.nd rfl (Or.inl rfl)) (pgs_cons (pg_name (i := 3) sc_is_kept.nd rfl (Or.inl rfl)) pgs_nil)))
        (pss_one (ps_if (pt_cmpR op_eq (pe_dget hu (pv 1) (pv 2) (fun _ _ => rfl)) (pv 3) (nomark _))
          (pss_one (ps_ret pe_bl))
          pss_nil)))
      (pss_one (ps_ret pe_bl))), ?_⟩
    obtain ⟨a, cvs, rfl, ha, hc⟩ := hv.tup_inv
    refine seq_forK ⟨_, rfl, a, rfl, ⟨_, ha⟩, for_seq walk_tup (fun i σ H' => (∃ v2 v3 : Option V, σ = [some (.ref a), some (.ref d), v2, v3]) ∧ H' = H ∧ keptB (cl.take i) (r.take i) = false) ⟨⟨_, _, rfl⟩, rfl, rfl⟩ (fun i σ H' _ z => by rw [z.2.1]; exact ha) ?_ ?_⟩
    · rintro i v σ H1 H2 hi ⟨⟨v2, v3, rfl⟩, rfl, hk⟩ ⟨rfl, hv'⟩
      obtain ⟨p, hp, fp⟩ := hc.atm hv'
      obtain ⟨b, rfl, sb⟩ := prD_inv fp
      have il : i < cl.length := (List.getElem?_eq_some_iff.mp hp).1
      obtain ⟨z, hz⟩ : ∃ z, r[i]? = some z := ⟨_, List.getElem?_eq_getElem (by omega)⟩
      have st : keptB (cl.take (i + 1)) (r.take (i + 1)) = decide (V.int z = V.int p.2) := by
        unfold keptB at hk ⊢
        rw [List.take_add_one, List.take_add_one, hp, hz, Option.toList_some, Option.toList_some, List.zip_append (by rw [List.length_take, List.length_take]; omega), List.any_append, hk]
        by_cases e : p.2 = z
        · simp [e]
        · simp [e, Ne.symm e]
      have vv := valV_kvZ (ks := cl.map (·.1)) (ys := r.map V.int) (i := i) (s := p.1) (v := .int z) nd (by rw [List.getElem?_map, hp]; rfl) (by rw [List.getElem?_map, hz]; rfl)
      refine ⟨b, _, rfl, sb, rfl, _, _, rfl, gnK ⟨_, _, rfl, gnK ⟨rfl, ?_⟩⟩⟩
      refine if_anK ?_
      refine ⟨_, rfl, _, rfl, d, .int z, rfl, (vv ▸ DGet.k (k := Sum.inr p.1) hd), _, rfl, rfl, _, rfl, ?_⟩
      refine ite2 (fun c => ?_) (fun c => ?_)
      · walk_at "st"
        have e : keptB cl r = true := by
          have : (cl.zip r).any (fun p => p.1.2 == p.2) = true := by
            rw [List.any_eq_true]
            refine ⟨(p, z), List.mem_of_getElem? (i := i) (List.getElem?_zip_eq_some.mpr ⟨hp, hz⟩), ?_⟩
            have e : V.int z = V.int p.2 := by simpa using c
            cases e; simp
          exact this
        rw [e] at q
        exact q
      · exact ⟨⟨_, _, rfl⟩, rfl, by rw [st]; simpa using c⟩
    · rintro σ H1 ⟨⟨v2, v3, rfl⟩, rfl, hk⟩
      walk_at "st"
      rw [hc.length, List.length_map, List.take_length, ← hl, List.take_length] at hk
      rw [hk] at q
      exact q
def sp_table_of (K : PySem.W.Frag) : Sp := fun vs H Q _ => ∃ (v : V) (cl : List (Str × Int)), vs = [v] ∧ Fd K H 2 v (prsD cl) ∧ gcl cl ∧ ∀ v' H', Kp [] H H' → Fd K H' 3 v' (tblD cl) → Q v' H'
theorem ok_table_of (T : Txt K mg A D) : FnOk P w K mg base CX0 2 (A 14) (D 14) ["clause"] (sp_table_of K) := by
  refine T.F_table_of.ok sc_table_of (fun vs H Q E h => ?_) (fun cdv A' outer s H vs Q E hr h => ?_)
  · obtain ⟨v, cl, rfl, hv, hg, q⟩ := h
    rfl
  · obtain ⟨v, cl, rfl, hv, hg, q⟩ := h
    have hu := hu_of hr
    have G_is_kept : FnOk P w K mg base CX0 1 (A 2) (D 2) ["clause", "values"] (sp_is_kept K) := ok_is_kept T
    have G_bit_rows : FnOk P w K mg base CX0 1 (A 1) (D 1) ["count"] (sp_bit_rows K) := ok_bit_rows T
    refine ⟨_, (pss_cons (ps_set (i := 1) sc_table_of.nd rfl (Or.inr rfl) (pe_callTy (T := "tuple") (cK_tuple (K := K) rfl) (by rfl) T.z_tuple (by decide +kernel) (pa_cons (pe_lc (own := [("name", 4), ("_", 5)])  (tt := tYes) rfl sc_table_of.nd (iK_tup (K := K) rfl (pv 0)) (blkOk_by (N := N_table_of) (sc := defScope (topS 14)) (by decide +kernel)) (fun _ _ _ _ _ => (gK_tup (K := K) 2 rfl rfl (pgs_cons (pg_name (i := 4) sc_table_of.nd rfl (Or.inl rfl)) (pgs_cons (pg_name (i := 5) sc_table_of.nd rfl (Or.inl rfl)) pgs_nil)))) (fun _ _ _ _ _ => pts_nil) (fun _ _ _ _ _ => (pv 4))) pa_nil)))
      (pss_cons (ps_setLc (i := 2) (own := [("row", 3)]) (g := gName 3)  rfl sc_table_of.nd rfl rfl (sw_true rfl rfl rfl (by decide +kernel))  (iK_tup (K := K) rfl (pe_call G_bit_rows (hr.mono (by decide)) rfl T.g_bit_rows T.F_bit_rows.kp T.b_bit_rows .nil pass0 (pa_cons (pe_callB (id := "len") (cK_len (K := K) rfl) (by rfl) T.z_len (by decide +kernel) (pa_cons (pv 1) pa_nil)) pa_nil))) (blkOk_by (N := N_table_of) (sc := defScope (topS 14)) (by decide +kernel)) (fun _ _ _ _ _ => (pg_name (i := 3) sc_table_of.nd rfl (Or.inl rfl))) (fun _ _ _ _ _ => (pts_one (pt_val (pe_call G_is_kept (hr.mono (by decide)) rfl T.g_is_kept T.F_is_kept.kp T.b_is_kept .nil pass0 (pa_cons (pv 0) (pa_cons (pe_dzip (K := K) rfl (by rfl) T.z_dict (by rfl) T.z_zip (pa_cons (pv 1) (pa_cons (pv 3) pa_nil))) pa_nil)))))) (fun _ _ _ _ _ => (pv 3)))
      (pss_one (ps_ret (pe_tup (pa_cons (pv 1) (pa_cons (pe_callTy (T := "tuple") (cK_tuple (K := K) rfl) (by rfl) T.z_tuple (by decide +kernel) (pa_cons (pv 2) pa_nil)) pa_nil))))))), ?_⟩
    obtain ⟨a, cvs, rfl, ha, hc⟩ := hv.tup_inv
    have hcl : cvs.length = cl.length := by rw [hc.length, List.length_map]
    walk_at "st"
    refine ⟨_, rfl, a, rfl, ⟨_, ha⟩, fun D hD => lc_it walk_tup (fun i H' => H' D = some (.lst (((cl.take i).map (·.1)).map V.str)) ∧ Kp [] H H') ⟨upd_same, Kp.new hD⟩ (fun i H' _ z => z.2.sqT ha) ?_ ?_⟩
    · rintro i w H1 H2 hi ⟨h1, k1⟩ ⟨rfl, hw⟩
      obtain ⟨p, hp, fp⟩ := hc.atm hw
      obtain ⟨b, rfl, sb⟩ := prD_inv fp
      refine ⟨b, _, rfl, k1.sqT sb, rfl, _, _, rfl, gnK ⟨_, _, rfl, gnK ⟨rfl, rfl, ?_⟩⟩⟩
      refine yesK ?_
      refine iteT ?_
      refine ⟨_, rfl, _, h1, szl (by have := tk_len (g := fun p : Str × Int => p.1) (xs := cl) i; rw [List.length_map]; have := hg.2; omega), ?_, k1.put hD⟩
      rw [tk_map hp, List.map_append]; exact upd_same
    rintro H1 ⟨h1, k1⟩
    rw [hcl, List.take_length] at h1
    refine ⟨D, _, rfl, .inl ⟨SqL.of h1, fun t ht => ?_⟩⟩
    have kt : Kp [] H (upd H1 t (.tup ((cl.map (·.1)).map V.str))) := k1.trans (Kp.new ht)
    generalize hH2 : upd H1 t (.tup ((cl.map (·.1)).map V.str)) = H2 at kt
    have st : SqT K H2 t ((cl.map (·.1)).map V.str) := by rw [← hH2]; exact SqT.of upd_same
    clear hH2 h1 k1 ht
    walk_at "st"
    refine ⟨_, rfl, _, cl.length, rfl, .inr ⟨_, st, by simp⟩, cl.length, rfl, hg.2, fun t3 rvs H3 k3 s3 a3 => ?_⟩
    have sm := bitR_small (n := cl.length) hg.2
    refine ⟨t3, rfl, ⟨_, s3⟩, fun D2 hD2 => lc_it walk_tup (fun i H' => PvF [] K 1 H3 D2 ((((bitR cl.length).take i).filter (keptB cl)).map rowD) H') (pvF_0 hD2) (fun i H' _ z => z.kp.sqT s3) ?_ ?_⟩
    · rintro i w H4 H5 hi pv ⟨rfl, hw⟩
      obtain ⟨r, hr, fr⟩ := a3.atm hw
      have lr := bitR_len (List.mem_of_getElem? hr)
      obtain ⟨b, rfl, sb⟩ := rowD_inv (fr.kp pv.kp)
      have k5 := k3.trans pv.kp
      refine gnK ⟨rfl, ?_⟩
      refine ⟨_, rfl, _, rfl, _, rfl, t, b, cl.map (·.1), r.map V.int, rfl, k5.sqT st, sb, hg.1, by simp [lr], fun d hd => ?_⟩
      have kd : Kp [] H5 (upd H5 d (.dK (kvZ (cl.map (·.1)) (r.map V.int)))) := Kp.new hd
      refine ⟨_, cl, d, r, rfl, hv.kp ((kt.trans k5).trans kd), upd_same, hg.1, lr, _, rfl, ?_⟩
      refine ite2 (fun c => ?_) (fun c => ?_)
      · obtain ⟨acc, c1, c2, c3⟩ := pv.step kd List.not_mem_nil hD2 (by have := tk_filLen (p := keptB cl) (g := rowD) (xs := bitR cl.length) i; omega) (row_fd (n := 0) (kd.sqT sb))
        exact ⟨_, rfl, acc, c1, c2, c3.to (tk_filT hr c).symm⟩
      · exact (pv.skip kd List.not_mem_nil).to (tk_filF hr (by simpa using c)).symm
    rintro H4 pv
    obtain ⟨acc, c1, c2⟩ := pv.ex
    rw [a3.length, List.length_map, List.take_length] at c2
    walk_at "st"
    refine ⟨_, rfl, _, rfl, D2, _, rfl, .inl ⟨SqL.of c1, fun t5 h5 => ⟨sz (by simp), fun t6 h6 => ?_⟩⟩⟩
    have k5 : Kp [] H4 (upd H4 t5 (.tup acc)) := Kp.new h5
    have k6 : Kp [] (upd H4 t5 (.tup acc)) (upd (upd H4 t5 (.tup acc)) t6 (.tup [.ref t, .ref t5])) := Kp.new h6
    have k36 := (k3.trans pv.kp).trans (k5.trans k6)
    refine q _ _ (kt.trans k36) (.tup (SqT.of upd_same) (.cons (.tup (k36.sqT st) (fd_strs _)) (.cons (.tup (k6.sqT (SqT.of upd_same)) (c2.kp (k5.trans k6))) .nil)))
def sp_rows_of_bits (K : PySem.W.Frag) : Sp := fun vs H Q _ => ∃ (v : V) (ns : List Str) (cls : List (List (Str × Int))), vs = [v] ∧ Fd K H 4 v (thD ns (cls.map prsD)) ∧ ns.length ≤ 10 ∧ cls.length ≤ 10 ∧ (∀ cl ∈ cls, gcl cl) ∧ ∀ v' H', Kp [] H H' → Fd K H' 5 v' (thD ns (ns.map unitD ++ cls.map tblD)) → Q v' H'
theorem ok_rows_of_bits (T : Txt K mg A D) : FnOk P w K mg base CX0 3 (A 15) (D 15) ["theory"] (sp_rows_of_bits K) := by
  refine T.F_rows_of_bits.ok sc_rows_of_bits (fun vs H Q E h => ?_) (fun cdv A' outer s H vs Q E hr h => ?_)
  · obtain ⟨v, ns, cls, rfl, hv, hn, hc, hg, q⟩ := h
    rfl
  · obtain ⟨v, ns, cls, rfl, hv, hn, hc, hg, q⟩ := h
    have hu := hu_of hr
    have G_table_of : FnOk P w K mg base CX0 2 (A 14) (D 14) ["clause"] (sp_table_of K) := ok_table_of T
    refine ⟨_, (pss_cons (ps_asg (pv 0) (gK_tup (K := K) 2 rfl rfl (pgs_cons (pg_name (i := 1) sc_rows_of_bits.nd rfl (Or.inl rfl)) (pgs_cons (pg_name (i := 2) sc_rows_of_bits.nd rfl (Or.inl rfl)) pgs_nil))))
      (pss_cons (ps_setLc (i := 3) (own := [("name", 4)]) (g := gName 4) (tt := tYes) rfl sc_rows_of_bits.nd rfl rfl (sw_true rfl rfl rfl (by decide +kernel))  (iK_tup (K := K) rfl (pv 1)) (blkOk_by (N := N_rows_of_bits) (sc := defScope (topS 15)) (by decide +kernel)) (fun _ _ _ _ _ => (pg_name (i := 4) sc_rows_of_bits.nd rfl (Or.inl rfl))) (fun _ _ _ _ _ => pts_nil) (fun _ _ _ _ _ => (pe_tup (pa_cons (pe_tup (pa_cons (pv 4) pa_nil)) (pa_cons (pe_tup (pa_cons (pe_tup (pa_cons pe_int pa_nil)) (pa_cons (pe_tup (pa_cons pe_int pa_nil)) pa_nil))) pa_nil)))))
      (pss_one (ps_ret (pe_tup (pa_cons (pv 1) (pa_cons (pe_callTy (T := "tuple") (cK_tuple (K := K) rfl) (by rfl) T.z_tuple (by decide +kernel) (pa_cons (pe_op op_cat (pv 3) (pe_lc (own := [("clause", 5)]) (g := gName 5) (tt := tYes) rfl sc_rows_of_bits.nd (iK_tup (K := K) rfl (pv 2)) (blkOk_by (N := N_rows_of_bits) (sc := defScope (topS 15)) (by decide +kernel)) (fun _ _ _ _ _ => (pg_name (i := 5) sc_rows_of_bits.nd rfl (Or.inl rfl))) (fun _ _ _ _ _ => pts_nil) (fun _ _ _ _ _ => (pe_call G_table_of (hr.mono (by decide)) rfl T.g_table_of T.F_table_of.kp T.b_table_of .nil pass0 (pa_cons (pv 5) pa_nil))))) pa_nil)) pa_nil))))))), ?_⟩
    obtain ⟨t, x, y, cvs, rfl, h0, hx, hy, hcs⟩ := thD_inv hv
    have hcl : cvs.length = cls.length := by rw [hcs.length, List.length_map]
    refine ⟨_, rfl, t, _, rfl, h0, rfl, _, _, rfl, gnK ⟨_, _, rfl, gnK ⟨rfl, ?_⟩⟩⟩
    walk_at "st"
    refine ⟨_, rfl, x, rfl, ⟨_, hx⟩, fun D1 hD1 => lc_it walk_tup (fun i H' => PvF [] K 3 H D1 ((ns.take i).map unitD) H') (pvF_0 hD1) (fun i H' _ z => z.kp.sqT hx) ?_ ?_⟩
    · rintro i w H1 H2 hi pv ⟨rfl, hw⟩
      rw [List.getElem?_map] at hw
      obtain ⟨s, hs, rfl⟩ := Option.map_eq_some_iff.mp hw
      refine gnK ⟨rfl, ?_⟩
      refine yesK ?_
      refine iteT ?_
      refine ⟨_, rfl, sz (by simp), fun a1 h1 => ⟨sz (by simp), fun a2 h2 => ⟨sz (by simp), fun a3 h3 => ⟨sz (by simp), fun a4 h4 => ⟨sz (by simp), fun a5 h5 => ?_⟩⟩⟩⟩⟩
      obtain ⟨ku, fu⟩ := unit_fd (K := K) h1 h2 h3 h4 h5
      obtain ⟨acc, c1, c2, c3⟩ := pv.step ku List.not_mem_nil hD1 (by have := tk_len (g := unitD) (xs := ns) i; omega) fu
      exact ⟨acc, c1, c2, c3.to (tk_map hs).symm⟩
    rintro H1 pv
    obtain ⟨acc, c1, c2⟩ := pv.ex
    rw [List.length_map, List.take_length] at c2
    have k1 := pv.kp
    walk_at "st"
    refine ⟨_, rfl, _, rfl, _, rfl, y, rfl, ⟨_, k1.sqT hy⟩, fun D2 hD2 => lc_it walk_tup (fun i H' => PvF [] K 3 H1 D2 ((cls.take i).map tblD) H') (pvF_0 hD2) (fun i H' _ z => z.kp.sqT (k1.sqT hy)) ?_ ?_⟩
    · rintro i w H2 H3 hi pv2 ⟨rfl, hw⟩
      obtain ⟨cl, hcl', fc⟩ := hcs.atm hw
      refine gnK ⟨rfl, ?_⟩
      refine yesK ?_
      refine iteT ?_
      refine ⟨_, rfl, w, cl, rfl, fc.kp (k1.trans pv2.kp), hg cl (List.mem_of_getElem? hcl'), fun v' H4 k4 f4 => ?_⟩
      obtain ⟨acc2, c1, c2, c3⟩ := pv2.step k4 List.not_mem_nil hD2 (by have := tk_len (g := tblD) (xs := cls) i; omega) f4
      exact ⟨acc2, c1, c2, c3.to (tk_map hcl').symm⟩
    rintro H2 pv2
    obtain ⟨acc2, d1, d2⟩ := pv2.ex
    rw [hcl, List.take_length] at d2
    refine ⟨D1, D2, acc, acc2, rfl, rfl, pv2.kp.get c1 (.inl List.not_mem_nil), d1, sz (by rw [c2.length, d2.length, List.length_map, List.length_map]; omega), fun p hp => ⟨p, _, rfl, .inl ⟨SqL.of upd_same, fun u hu => ⟨sz (by simp), fun z hz => ?_⟩⟩⟩⟩
    have kp := Kp.new (A := []) (o := .lst (acc ++ acc2)) hp
    have ku := Kp.new (A := []) (o := .tup (acc ++ acc2)) hu
    have kz := Kp.new (A := []) (o := .tup [.ref x, .ref u]) hz
    have kk := kp.trans (ku.trans kz)
    refine q _ _ (k1.trans (pv2.kp.trans kk)) (thD_mk (SqT.of upd_same) ((k1.trans (pv2.kp.trans kk)).sqT hx) (kz.sqT (SqT.of upd_same)) (FdAll.app (c2.kp (pv2.kp.trans kk)) (d2.kp kk)))
def sp_machine_of (K : PySem.W.Frag) : Sp := fun vs H Q _ => ∃ (v : V) (cl : List (Str × Int)), vs = [v] ∧ Fd K H 2 v (prsD cl) ∧ gcl cl ∧ ∀ v' H', Kp [] H H' → Fd K H' 3 v' (machD cl) → Q v' H'
theorem ok_machine_of (T : Txt K mg A D) : FnOk P w K mg base CX0 2 (A 18) (D 18) ["clause"] (sp_machine_of K) := by
  refine T.F_machine_of.ok sc_machine_of (fun vs H Q E h => ?_) (fun cdv A' outer s H vs Q E hr h => ?_)
  · obtain ⟨v, cl, rfl, hv, hg, q⟩ := h
    rfl
  · obtain ⟨v, cl, rfl, hv, hg, q⟩ := h
    have hu := hu_of hr
    have G_bit_rows : FnOk P w K mg base CX0 1 (A 1) (D 1) ["count"] (sp_bit_rows K) := ok_bit_rows T
    have G_is_kept : FnOk P w K mg base CX0 1 (A 2) (D 2) ["clause", "values"] (sp_is_kept K) := ok_is_kept T
    refine ⟨_, (pss_cons (ps_set (i := 1) sc_machine_of.nd rfl (Or.inl rfl) (pe_callTy (T := "tuple") (cK_tuple (K := K) rfl) (by rfl) T.z_tuple (by decide +kernel) (pa_cons (pe_lc (own := [("name", 4), ("_", 5)])  (tt := tYes) rfl sc_machine_of.nd (iK_tup (K := K) rfl (pv 0)) (blkOk_by (N := N_machine_of) (sc := defScope (topS 18)) (by decide +kernel)) (fun _ _ _ _ _ => (gK_tup (K := K) 2 rfl rfl (pgs_cons (pg_name (i := 4) sc_machine_of.nd rfl (Or.inl rfl)) (pgs_cons (pg_name (i := 5) sc_machine_of.nd rfl (Or.inl rfl)) pgs_nil)))) (fun _ _ _ _ _ => pts_nil) (fun _ _ _ _ _ => (pv 4))) pa_nil)))
      (pss_cons (ps_set (i := 2) sc_machine_of.nd rfl (Or.inl rfl) (pe_lst pa_nil))
      (pss_cons (ps_for PassesOwn.never rfl (iK_tup (K := K) rfl (pe_call G_bit_rows (hr.mono (by decide)) rfl T.g_bit_rows T.F_bit_rows.kp T.b_bit_rows .nil pass0 (pa_cons (pe_callB (id := "len") (cK_len (K := K) rfl) (by rfl) T.z_len (by decide +kernel) (pa_cons (pv 1) pa_nil)) pa_nil))) (pg_name (i := 3) sc_machine_of.nd rfl (Or.inl rfl))
        (pss_one (ps_expr (pe_bm PySem.F.plainAttrs_list PySem.F.slot_list_append PySem.F.type_list_append mt_append (pv 2) (pa_cons (pe_ifExp (pt_val (pe_call G_is_kept (hr.mono (by decide)) rfl T.g_is_kept T.F_is_kept.kp T.b_is_kept .nil pass0 (pa_cons (pv 0) (pa_cons (pe_dzip (K := K) rfl (by rfl) T.z_dict (by rfl) T.z_zip (pa_cons (pv 1) (pa_cons (pv 3) pa_nil))) pa_nil)))) pe_int (pe_un un_neg pe_int)) pa_nil)))))
      (pss_one (ps_ret (pe_tup (pa_cons (pv 1) (pa_cons (pe_tup (pa_cons (pe_callTy (T := "tuple") (cK_tuple (K := K) rfl) (by rfl) T.z_tuple (by decide +kernel) (pa_cons (pv 2) pa_nil)) (pa_cons (pe_op (op_repT2 (K := K) rfl) (pe_tup (pa_cons (pe_un un_neg pe_int) pa_nil)) (pe_callB (id := "len") (cK_len (K := K) rfl) (by rfl) T.z_len (by decide +kernel) (pa_cons (pv 2) pa_nil))) pa_nil))) (pa_cons (pe_tup (pa_cons pe_int (pa_cons pe_int pa_nil))) pa_nil))))))))), ?_⟩
    obtain ⟨a, cvs, rfl, ha, hc⟩ := hv.tup_inv
    have hcl : cvs.length = cl.length := by rw [hc.length, List.length_map]
    walk_at "st"
    refine ⟨_, rfl, a, rfl, ⟨_, ha⟩, fun D hD => lc_it walk_tup (fun i H' => H' D = some (.lst (((cl.take i).map (·.1)).map V.str)) ∧ Kp [] H H') ⟨upd_same, Kp.new hD⟩ (fun i H' _ z => z.2.sqT ha) ?_ ?_⟩
    · rintro i w H1 H2 hi ⟨h1, k1⟩ ⟨rfl, hw⟩
      obtain ⟨p, hp, fp⟩ := hc.atm hw
      obtain ⟨b, rfl, sb⟩ := prD_inv fp
      refine ⟨b, _, rfl, k1.sqT sb, rfl, _, _, rfl, gnK ⟨_, _, rfl, gnK ⟨rfl, rfl, ?_⟩⟩⟩
      refine yesK ?_
      refine iteT ?_
      refine ⟨_, rfl, _, h1, szl (by have := tk_len (g := fun p : Str × Int => p.1) (xs := cl) i; rw [List.length_map]; have := hg.2; omega), ?_, k1.put hD⟩
      rw [tk_map hp, List.map_append]; exact upd_same
    rintro H1 ⟨h1, k1⟩
    rw [hcl, List.take_length] at h1
    refine ⟨D, _, rfl, .inl ⟨SqL.of h1, fun t ht => ?_⟩⟩
    have kt : Kp [] H (upd H1 t (.tup ((cl.map (·.1)).map V.str))) := k1.trans (Kp.new ht)
    generalize hH2 : upd H1 t (.tup ((cl.map (·.1)).map V.str)) = H2 at kt
    have st : SqT K H2 t ((cl.map (·.1)).map V.str) := by rw [← hH2]; exact SqT.of upd_same
    clear hH2 h1 k1 ht
    walk_at "st"
    refine ⟨sz (by simp), fun l hl => ?_⟩
    have sm := bitR_small (n := cl.length) hg.2
    have st0 : SqT K (upd H2 l (.lst [])) t ((cl.map (·.1)).map V.str) := (Kp.new (A := []) hl).sqT st
    refine seq_forK ⟨_, rfl, _, cl.length, rfl, .inr ⟨_, st0, by simp⟩, cl.length, rfl, hg.2, fun t3 rvs H3 k3 s3 a3 => ?_⟩
    have hl3 := k3.get (a := l) upd_same (.inl List.not_mem_nil)
    refine ⟨t3, rfl, ⟨_, s3⟩, for_seq walk_tup (fun i σ H' => (∃ v3 v4 v5 : Option V, σ = [some (.ref a), some (.ref t), some (.ref l), v3, v4, v5]) ∧ H' l = some (.lst ((((bitR cl.length).take i).map (mvI cl)).map V.int)) ∧ Kp [l] H3 H') ⟨⟨_, _, _, rfl⟩, hl3, Kp.refl⟩ (fun i σ H' _ z => z.2.2.sqT s3) ?_ ?_⟩
    · rintro i w σ H4 H5 hi ⟨⟨v3, v4, v5, rfl⟩, h4, k4⟩ ⟨rfl, hw⟩
      obtain ⟨r, hr, fr⟩ := a3.atm hw
      have lr := bitR_len (List.mem_of_getElem? hr)
      obtain ⟨b, rfl, sb⟩ := rowD_inv (fr.kp k4)
      have k35 : Kp [l] (upd H2 l (.lst [])) H5 := k3.nil.trans k4
      refine gnK ?_
      refine dropK' ?_
      refine ⟨_, rfl, .inl ⟨rfl, _, SqL.of h4⟩, _, rfl, _, rfl, _, rfl, t, b, cl.map (·.1), r.map V.int, rfl, k35.sqT st0, sb, hg.1, by simp [lr], fun d hd => ?_⟩
      have kd : Kp [l] H5 (upd H5 d (.dK (kvZ (cl.map (·.1)) (r.map V.int)))) := Kp.new hd
      have h5 := (Kp.new (A := []) (o := .dK (kvZ (cl.map (·.1)) (r.map V.int))) hd).get h4 (.inl List.not_mem_nil)
      have kH : Kp [l] H2 (upd H5 d (.dK (kvZ (cl.map (·.1)) (r.map V.int)))) := (Kp.new hl).trans (k35.trans kd)
      have ln : ((((bitR cl.length).take i).map (mvI cl)).map V.int).length ≤ 64 := by have := tk_len (g := mvI cl) (xs := bitR cl.length) i; rw [List.length_map]; omega
      refine ⟨_, cl, d, r, rfl, hv.kp (kt.nil.trans kH), upd_same, hg.1, lr, _, rfl, ?_⟩
      refine ite2 (fun c => ?_) (fun c => ?_)
      · refine ⟨l, _, _, rfl, rfl, h5, szl (by omega), ⟨_, _, _, rfl⟩, ?_, k4.trans (kd.trans (Kp.own h5 rfl (by simp)))⟩
        rw [upd_same, tk_map hr, List.map_append, mvI, if_pos c]; rfl
      · refine ⟨_, rfl, l, _, _, rfl, rfl, h5, szl (by omega), ⟨_, _, _, rfl⟩, ?_, k4.trans (kd.trans (Kp.own h5 rfl (by simp)))⟩
        rw [upd_same, tk_map hr, List.map_append, mvI, if_neg c]; rfl
    rintro σ H4 ⟨⟨v3, v4, v5, rfl⟩, h4, k4⟩
    rw [a3.length, List.length_map, List.take_length] at h4
    have k24 : Kp [] H2 H4 := Kp.back hl ((Kp.new hl).trans (k3.nil.trans k4))
    walk_at "st"
    refine ⟨_, rfl, _, rfl, l, _, rfl, .inl ⟨SqL.of h4, fun u hu => ?_⟩⟩
    have ku := Kp.new (A := []) (o := .tup (((bitR cl.length).map (mvI cl)).map V.int)) hu
    have hl4 := ku.get h4 (.inl List.not_mem_nil)
    refine ⟨_, rfl, sz (by simp), fun p1 hp1 => ?_⟩
    have k1 := Kp.new (A := []) (o := .tup [.int (-1)]) hp1
    refine ⟨_, rfl, _, (bitR cl.length).length, rfl, .inl ⟨_, SqL.of (k1.get hl4 (.inl List.not_mem_nil)), by simp⟩, ?_⟩
    refine repA (SqT.of upd_same) (by omega) fun p2 H7 k7 s7 => ⟨sz (by simp), fun p3 hp3 => ⟨sz (by simp), fun p4 hp4 => ⟨sz (by simp), fun p5 hp5 => ?_⟩⟩⟩
    have k3' := Kp.new (A := []) (o := .tup [.ref u, .ref p2]) hp3
    have k4' := Kp.new (A := []) (o := .tup [.int 0, .int 1]) hp4
    have k5' := Kp.new (A := []) (o := .tup [.ref t, .ref p3, .ref p4]) hp5
    have k345 := k3'.trans (k4'.trans k5')
    have k175 := k1.trans (k7.trans k345)
    have kall := k24.trans (ku.trans k175)
    refine q _ _ (kt.trans kall) (.tup (SqT.of upd_same) (.cons (nm_fd (kall.sqT st)) (.cons (.tup ((k4'.trans k5').sqT (SqT.of upd_same)) (.cons (row_fd (k175.sqT (SqT.of upd_same))) (.cons (row_fd ?_) .nil))) (.cons (row_fd (r := [0, 1]) (k5'.sqT (SqT.of upd_same))) .nil))))
    rw [List.map_replicate]
    exact k345.sqT s7
def sp_words_of_bits (K : PySem.W.Frag) : Sp := fun vs H Q _ => ∃ (v : V) (ns : List Str) (cls : List (List (Str × Int))), vs = [v] ∧ Fd K H 4 v (thD ns (cls.map prsD)) ∧ cls.length ≤ 10 ∧ (∀ cl ∈ cls, gcl cl) ∧ ∀ v' H', Kp [] H H' → Fd K H' 6 v' (thD ns (oneD :: cls.map machD)) → Q v' H'
theorem ok_words_of_bits (T : Txt K mg A D) : FnOk P w K mg base CX0 3 (A 19) (D 19) ["theory"] (sp_words_of_bits K) := by
  refine T.F_words_of_bits.ok sc_words_of_bits (fun vs H Q E h => ?_) (fun cdv A' outer s H vs Q E hr h => ?_)
  · obtain ⟨v, ns, cls, rfl, hv, hc, hg, q⟩ := h
    rfl
  · obtain ⟨v, ns, cls, rfl, hv, hc, hg, q⟩ := h
    have hu := hu_of hr
    have G_machine_of : FnOk P w K mg base CX0 2 (A 18) (D 18) ["clause"] (sp_machine_of K) := ok_machine_of T
    refine ⟨_, (pss_cons (ps_asg (pv 0) (gK_tup (K := K) 2 rfl rfl (pgs_cons (pg_name (i := 1) sc_words_of_bits.nd rfl (Or.inl rfl)) (pgs_cons (pg_name (i := 2) sc_words_of_bits.nd rfl (Or.inl rfl)) pgs_nil))))
      (pss_one (ps_ret (pe_tup (pa_cons (pv 1) (pa_cons (pe_op (oK_catA (K := K) rfl) (pe_tup (pa_cons (pe_glob (v := .ref (A 17)) rfl T.g_ONE_LETTER rfl) pa_nil)) (pe_callTy (T := "tuple") (cK_tuple (K := K) rfl) (by rfl) T.z_tuple (by decide +kernel) (pa_cons (pe_lc (own := [("clause", 3)]) (g := gName 3) (tt := tYes) rfl sc_words_of_bits.nd (iK_tup (K := K) rfl (pv 2)) (blkOk_by (N := N_words_of_bits) (sc := defScope (topS 19)) (by decide +kernel)) (fun _ _ _ _ _ => (pg_name (i := 3) sc_words_of_bits.nd rfl (Or.inl rfl))) (fun _ _ _ _ _ => pts_nil) (fun _ _ _ _ _ => (pe_call G_machine_of (hr.mono (by decide)) rfl T.g_machine_of T.F_machine_of.kp T.b_machine_of .nil pass0 (pa_cons (pv 3) pa_nil)))) pa_nil))) pa_nil)))))), ?_⟩
    obtain ⟨t, x, y, cvs, rfl, h0, hx, hy, hcs⟩ := thD_inv hv
    have hcl : cvs.length = cls.length := by rw [hcs.length, List.length_map]
    refine ⟨_, rfl, t, _, rfl, h0, rfl, _, _, rfl, gnK ⟨_, _, rfl, gnK ⟨rfl, ?_⟩⟩⟩
    walk_at "st"
    refine ⟨_, rfl, sz (by simp), fun o ho => ?_⟩
    have k1 := Kp.new (A := []) (o := .tup [.ref (A 17)]) ho
    have so : SqT K (upd H o (.tup [.ref (A 17)])) o [.ref (A 17)] := SqT.of upd_same
    generalize upd H o (.tup [.ref (A 17)]) = H1 at k1 so
    refine ⟨_, rfl, y, rfl, ⟨_, k1.sqT hy⟩, fun D2 hD2 => lc_it walk_tup (fun i H' => PvF [] K 3 H1 D2 ((cls.take i).map machD) H') (pvF_0 hD2) (fun i H' _ z => z.kp.sqT (k1.sqT hy)) ?_ ?_⟩
    · rintro i w H2 H3 hi pv2 ⟨rfl, hw⟩
      obtain ⟨cl, hcl', fc⟩ := hcs.atm hw
      refine gnK ⟨rfl, ?_⟩
      refine yesK ?_
      refine iteT ?_
      refine ⟨_, rfl, w, cl, rfl, fc.kp (k1.trans pv2.kp), hg cl (List.mem_of_getElem? hcl'), fun v' H4 k4 f4 => ?_⟩
      obtain ⟨acc2, c1, c2, c3⟩ := pv2.step k4 List.not_mem_nil hD2 (by have := tk_len (g := machD) (xs := cls) i; omega) f4
      exact ⟨acc2, c1, c2, c3.to (tk_map hcl').symm⟩
    rintro H2 pv2
    obtain ⟨acc2, d1, d2⟩ := pv2.ex
    rw [hcl, List.take_length] at d2
    have ln : acc2.length = cls.length := by rw [d2.length, List.length_map]
    refine ⟨D2, acc2, rfl, .inl ⟨SqL.of d1, fun u hu => ?_⟩⟩
    have ku := Kp.new (A := []) (o := .tup acc2) hu
    refine catA ((pv2.kp.trans ku).sqT so) (SqT.of upd_same) (by simp; omega) fun p H3 k3 s3 => ⟨sz (by simp), fun z hz => ?_⟩
    have kz := Kp.new (A := []) (o := .tup [.ref x, .ref p]) hz
    have kk := k1.trans (pv2.kp.trans (ku.trans (k3.trans kz)))
    exact q _ _ kk (thD_mk (n := 4) (SqT.of upd_same) (kk.sqT hx) (kz.sqT s3) (.cons (oneD_of (T.d_ONE_LETTER [] _)).up (d2.up.kp (ku.trans (k3.trans kz)))))
def sp_line_of (K : PySem.W.Frag) : Sp := fun vs H Q _ => ∃ (v : V) (c : Str × Str × Int), vs = [v] ∧ Fd K H 1 v (consD c) ∧ ∀ v' H', Kp [] H H' → Fd K H' 3 v' (lineD c) → Q v' H'
theorem ok_line_of (T : Txt K mg A D) : FnOk P w K mg base CX0 1 (A 11) (D 11) ["constraint"] (sp_line_of K) := by
  refine T.F_line_of.ok sc_line_of (fun vs H Q E h => ?_) (fun cdv A' outer s H vs Q E hr h => ?_)
  · obtain ⟨v, c, rfl, hv, q⟩ := h
    rfl
  · obtain ⟨v, c, rfl, hv, q⟩ := h
    have hu := hu_of hr
    refine ⟨_, (pss_cons (ps_asg (pv 0) (gK_tup (K := K) 3 rfl rfl (pgs_cons (pg_name (i := 1) sc_line_of.nd rfl (Or.inl rfl)) (pgs_cons (pg_name (i := 2) sc_line_of.nd rfl (Or.inl rfl)) (pgs_cons (pg_name (i := 3) sc_line_of.nd rfl (Or.inl rfl)) pgs_nil)))))
      (pss_cons (ps_setLc (i := 4) (own := [("name", 5), ("coefficient", 6)])   rfl sc_line_of.nd rfl rfl (sw_true rfl rfl rfl (by decide +kernel))  (iK_tup (K := K) rfl (pe_tup (pa_cons (pe_tup (pa_cons (pv 1) (pa_cons pe_int pa_nil))) (pa_cons (pe_tup (pa_cons (pv 2) (pa_cons (pe_un un_neg pe_int) pa_nil))) pa_nil)))) (blkOk_by (N := N_line_of) (sc := defScope (topS 11)) (by decide +kernel)) (fun _ _ _ _ _ => (gK_tup (K := K) 2 rfl rfl (pgs_cons (pg_name (i := 5) sc_line_of.nd rfl (Or.inl rfl)) (pgs_cons (pg_name (i := 6) sc_line_of.nd rfl (Or.inl rfl)) pgs_nil)))) (fun _ _ _ _ _ => (pts_one (pt_cmpR op_ne (pv 5) pe_str (nomark _)))) (fun _ _ _ _ _ => (pe_tup (pa_cons (pv 5) (pa_cons (pv 6) pa_nil)))))
      (pss_one (ps_ret (pe_tup (pa_cons (pe_callTy (T := "tuple") (cK_tuple (K := K) rfl) (by rfl) T.z_tuple (by decide +kernel) (pa_cons (pe_callB (id := "sorted") (cQ_sorted (K := K) rfl hr.units) (by rfl) T.z_sorted (by decide +kernel) (pa_cons (pv 4) pa_nil)) pa_nil)) (pa_cons pe_str (pa_cons (pv 3) pa_nil)))))))), ?_⟩
    obtain ⟨a, rfl, ha⟩ := consD_inv hv
    refine ⟨_, rfl, a, _, rfl, ha, rfl, _, _, rfl, gnK ⟨_, _, rfl, gnK ⟨_, _, rfl, gnK ⟨rfl, ?_⟩⟩⟩⟩
    walk_at "st"
    refine ⟨_, rfl, sz (by simp), fun a1 h1 => ⟨_, rfl, _, rfl, sz (by simp), fun a2 h2 => ⟨sz (by simp), fun a3 h3 => ?_⟩⟩⟩
    have k1 := Kp.new (A := []) (o := .tup [.str c.1, .int 1]) h1
    have k2 := Kp.new (A := []) (o := .tup [.str c.2.1, .int (-1)]) h2
    have k3 := Kp.new (A := []) (o := .tup [.ref a1, .ref a2]) h3
    have s1 := (k2.trans k3).sqT (SqT.of (K := K) (a := a1) upd_same)
    have s2 := k3.sqT (SqT.of (K := K) (a := a2) upd_same)
    have s3 := SqT.of (K := K) (a := a3) (H := upd (upd (upd H a1 (.tup [.str c.1, .int 1])) a2 (.tup [.str c.2.1, .int (-1)])) a3 (.tup [.ref a1, .ref a2])) upd_same
    have k13 := k1.trans (k2.trans k3)
    generalize upd (upd (upd H a1 (.tup [.str c.1, .int 1])) a2 (.tup [.str c.2.1, .int (-1)])) a3 (.tup [.ref a1, .ref a2]) = H1 at s1 s2 s3 k13
    clear k1 k2 k3 h1 h2 h3
    refine ⟨a3, rfl, ⟨_, s3⟩, fun D hD => lc_it (walk_tup (xs := [.ref a1, .ref a2])) (fun i H' => PvF [] K 1 H1 D ((([(c.1, 1), (c.2.1, -1)].take i).filter fun p : Str × Int => !decide (p.1 = "")).map prD) H') (pvF_0 hD) (fun i H' _ z => z.kp.sqT s3) ?_ ?_⟩
    · rintro i w H2 H3 hi pv ⟨rfl, hw⟩
      obtain ⟨p, b, hp, rfl, sb⟩ : ∃ (p : Str × Int) (b : Addr), [(c.1, (1 : Int)), (c.2.1, -1)][i]? = some p ∧ w = .ref b ∧ SqT K H1 b [.str p.1, .int p.2] := by
        have hj' : i = 0 ∨ i = 1 := by have : i < 2 := hi; omega
        rcases hj' with e | e <;> subst e <;> cases hw
        · exact ⟨_, a1, rfl, rfl, s1⟩
        · exact ⟨_, a2, rfl, rfl, s2⟩
      refine ⟨b, _, rfl, pv.kp.sqT sb, rfl, _, _, rfl, gnK ⟨_, _, rfl, gnK ⟨rfl, rfl, ?_⟩⟩⟩
      refine ⟨_, rfl, rfl, _, rfl, ?_⟩
      refine ite2 (fun e => ?_) (fun e => ?_)
      · have e' : (!decide (p.1 = "")) = true := by simpa using e
        refine ⟨_, rfl, _, rfl, sz (by simp), fun u hu => ?_⟩
        obtain ⟨acc, c1, c2, c3⟩ := pv.step (Kp.new (A := []) (o := .tup [.str p.1, .int p.2]) hu) List.not_mem_nil hD (by have := tk_filLen (p := fun p : Str × Int => !decide (p.1 = "")) (g := prD) (xs := [(c.1, (1 : Int)), (c.2.1, -1)]) i; have : [(c.1, (1 : Int)), (c.2.1, -1)].length = 2 := rfl; omega) (pr_fd (n := 0) (SqT.of upd_same))
        exact ⟨acc, c1, c2, c3.to (tk_filT hp e').symm⟩
      · have e' : (!decide (p.1 = "")) = false := by simpa using e
        exact pv.to (tk_filF hp e').symm
    rintro H2 pv
    obtain ⟨acc, c1, c2⟩ := pv.ex
    have c2' : FdAll K H2 1 acc ((lineT c).map prD) := c2
    walk_at "st"
    refine ⟨_, rfl, D, acc, (lineT c).map prD, rfl, SqL.of c1, c2'.dp, prs_alike _, .inl (prs_sortable _), fun d hd => ?_, fun ys p hy hp => ?_⟩
    · obtain ⟨r, _, rfl⟩ := List.mem_map.mp hd
      simp [prD, PyData.depth, PyData.depthAll]
    have fy : FdAll K H2 1 ys (srtP (lineT c)) := srt_fd hy
    refine ⟨p, ys, rfl, .inl ⟨SqL.of upd_same, fun u hu => ⟨_, rfl, sz (by simp), fun z hz => ?_⟩⟩⟩
    have kp := Kp.new (A := []) (o := .lst ys) hp
    have ku := Kp.new (A := []) (o := .tup ys) hu
    have kz := Kp.new (A := []) (o := .tup [.ref u, .str "<=", .int c.2.2]) hz
    have kk := kp.trans (ku.trans kz)
    exact q _ _ (k13.trans (pv.kp.trans kk)) (.tup (SqT.of upd_same) (.cons (.tup (kz.sqT (SqT.of upd_same)) (fy.kp kk)) (.cons (.str _) (.cons (.int _) .nil))))
def sp_lines_of_steps (K : PySem.W.Frag) : Sp := fun vs H Q _ => ∃ (v : V) (ns : List Str) (cs : List (Str × Str × Int)), vs = [v] ∧ Fd K H 3 v (thD ns (cs.map consD)) ∧ cs.length ≤ 10 ∧ ∀ v' H', Kp [] H H' → Fd K H' 5 v' (thD ns (cs.map lineD)) → Q v' H'
theorem ok_lines_of_steps (T : Txt K mg A D) : FnOk P w K mg base CX0 2 (A 12) (D 12) ["theory"] (sp_lines_of_steps K) := by
  refine T.F_lines_of_steps.ok sc_lines_of_steps (fun vs H Q E h => ?_) (fun cdv A' outer s H vs Q E hr h => ?_)
  · obtain ⟨v, ns, cs, rfl, hv, hc, q⟩ := h
    rfl
  · obtain ⟨v, ns, cs, rfl, hv, hc, q⟩ := h
    have hu := hu_of hr
    have G_line_of : FnOk P w K mg base CX0 1 (A 11) (D 11) ["constraint"] (sp_line_of K) := ok_line_of T
    refine ⟨_, (pss_one (ps_ret (pe_tup (pa_cons (pe_ix (xK_tup (K := K) rfl) (pv 0) pe_int (fun _ _ => rfl)) (pa_cons (pe_callTy (T := "tuple") (cK_tuple (K := K) rfl) (by rfl) T.z_tuple (by decide +kernel) (pa_cons (pe_lc (own := [("constraint", 1)]) (g := gName 1) (tt := tYes) rfl sc_lines_of_steps.nd (iK_tup (K := K) rfl (pe_ix (xK_tup (K := K) rfl) (pv 0) pe_int (fun _ _ => rfl))) (blkOk_by (N := N_lines_of_steps) (sc := defScope (topS 12)) (by decide +kernel)) (fun _ _ _ _ _ => (pg_name (i := 1) sc_lines_of_steps.nd rfl (Or.inl rfl))) (fun _ _ _ _ _ => pts_nil) (fun _ _ _ _ _ => (pe_call G_line_of (hr.mono (by decide)) rfl T.g_line_of T.F_line_of.kp T.b_line_of .nil pass0 (pa_cons (pv 1) pa_nil)))) pa_nil)) pa_nil))))), ?_⟩
    obtain ⟨t, x, y, cvs, rfl, h0, hx, hy, hcs⟩ := thD_inv (n := 1) hv
    have hcl : cvs.length = cs.length := by rw [hcs.length, List.length_map]
    walk_at "st"
    refine ⟨_, rfl, t, _, 0, _, rfl, rfl, h0, rfl, _, rfl, t, _, 1, _, rfl, rfl, h0, rfl, y, rfl, ⟨_, hy⟩, fun D2 hD2 => lc_it walk_tup (fun i H' => PvF [] K 3 H D2 ((cs.take i).map lineD) H') (pvF_0 hD2) (fun i H' _ z => z.kp.sqT hy) ?_ ?_⟩
    · rintro i w H2 H3 hi pv2 ⟨rfl, hw⟩
      obtain ⟨c, hc', fc⟩ := hcs.atm hw
      refine gnK ⟨rfl, ?_⟩
      refine yesK ?_
      refine iteT ?_
      refine ⟨_, rfl, w, c, rfl, fc.kp pv2.kp, fun v' H4 k4 f4 => ?_⟩
      obtain ⟨acc2, c1, c2, c3⟩ := pv2.step k4 List.not_mem_nil hD2 (by have := tk_len (g := lineD) (xs := cs) i; omega) f4
      exact ⟨acc2, c1, c2, c3.to (tk_map hc').symm⟩
    rintro H2 pv2
    obtain ⟨acc2, d1, d2⟩ := pv2.ex
    rw [hcl, List.take_length] at d2
    refine ⟨D2, acc2, rfl, .inl ⟨SqL.of d1, fun u hu => ⟨sz (by simp), fun z hz => ?_⟩⟩⟩
    have ku := Kp.new (A := []) (o := .tup acc2) hu
    have kz := Kp.new (A := []) (o := .tup [.ref x, .ref u]) hz
    have kk := pv2.kp.trans (ku.trans kz)
    exact q _ _ kk (thD_mk (SqT.of upd_same) (kk.sqT hx) (kz.sqT (SqT.of upd_same)) (d2.kp (ku.trans kz)))
def sp_clauses_of (K : PySem.W.Frag) : Sp := fun vs H Q _ => ∃ (v : V) (ts : List (Str × Int)) (rest : Int), vs = [v, .int rest] ∧ Fd K H 2 v (prsD ts) ∧ ts.length ≤ 6 ∧ rest.natAbs ≤ 1000 ∧ ∀ p xs H', Kp [] H H' → H' p = some (.lst xs) → FdAll K H' 2 xs ((clsOf ts rest).map prsD) → H p = none → Q (.ref p) H'
theorem ok_clauses_of (T : Txt K mg A D) : FnOk P w K mg base CX0 2 (A 8) (D 8) ["terms", "rest"] (sp_clauses_of K) := by
  refine T.F_clauses_of.ok sc_clauses_of (fun vs H Q E h => ?_) (fun cdv A' outer s H vs Q E hr h => ?_)
  · obtain ⟨v, ts, rest, rfl, hv, hl, hrs, q⟩ := h
    rfl
  · obtain ⟨v, ts, rest, rfl, hv, hl, hrs, q⟩ := h
    have hu := hu_of hr
    have G_bit_rows : FnOk P w K mg base CX0 1 (A 1) (D 1) ["count"] (sp_bit_rows K) := ok_bit_rows T
    refine ⟨_, (pss_cons (ps_setLc (i := 2) (own := [("name", 5), ("coefficient", 6)])   rfl sc_clauses_of.nd rfl rfl (sw_true rfl rfl rfl (by decide +kernel))  (iK_tup (K := K) rfl (pv 0)) (blkOk_by (N := N_clauses_of) (sc := defScope (topS 8)) (by decide +kernel)) (fun _ _ _ _ _ => (gK_tup (K := K) 2 rfl rfl (pgs_cons (pg_name (i := 5) sc_clauses_of.nd rfl (Or.inl rfl)) (pgs_cons (pg_name (i := 6) sc_clauses_of.nd rfl (Or.inl rfl)) pgs_nil)))) (fun _ _ _ _ _ => (pts_one (pt_cmpR op_eq (pe_op op_mod (pe_callTy (T := "int") call_int1 (by rfl) T.z_int (by decide +kernel) (pa_cons (pv 6) pa_nil)) pe_int) pe_int (nomark _)))) (fun _ _ _ _ _ => (pv 5)))
      (pss_cons (ps_set (i := 3) sc_clauses_of.nd rfl (Or.inl rfl) (pe_lst pa_nil))
      (pss_cons (ps_for PassesOwn.never rfl (iK_tup (K := K) rfl (pe_call G_bit_rows (hr.mono (by decide)) rfl T.g_bit_rows T.F_bit_rows.kp T.b_bit_rows .nil pass0 (pa_cons (pe_callB (id := "len") (cK_len (K := K) rfl) (by rfl) T.z_len (by decide +kernel) (pa_cons (pv 2) pa_nil)) pa_nil))) (pg_name (i := 4) sc_clauses_of.nd rfl (Or.inl rfl))
        (pss_one (ps_if (pt_cmpR op_eq (pe_op op_mod (pe_callTy (T := "int") call_int1 (by rfl) T.z_int (by decide +kernel) (pa_cons (pe_op op_sub (pe_op op_sub (pe_callB (id := "len") (cK_len (K := K) rfl) (by rfl) T.z_len (by decide +kernel) (pa_cons (pv 2) pa_nil)) (pe_callB (id := "sum") (cr_sumT (K := K) rfl rfl) (by rfl) T.z_sum (by decide +kernel) (pa_cons (pv 4) pa_nil))) (pv 1)) pa_nil)) pe_int) pe_int (nomark _))
          (pss_one (ps_expr (pe_bm PySem.F.plainAttrs_list PySem.F.slot_list_append PySem.F.type_list_append mt_append (pv 3) (pa_cons (pe_callTy (T := "tuple") (cK_tuple (K := K) rfl) (by rfl) T.z_tuple (by decide +kernel) (pa_cons (pe_lc (own := [("name", 5), ("sign", 7)])  (tt := tYes) rfl sc_clauses_of.nd (pi_zipLT (K := K) rfl (by rfl) T.z_zip (pa_cons (pv 2) (pa_cons (pv 4) pa_nil))) (blkOk_by (N := N_clauses_of) (sc := defScope (topS 8)) (by decide +kernel)) (fun _ _ _ _ _ => (gK_tup (K := K) 2 rfl rfl (pgs_cons (pg_name (i := 5) sc_clauses_of.nd rfl (Or.inl rfl)) (pgs_cons (pg_name (i := 7) sc_clauses_of.nd rfl (Or.inl rfl)) pgs_nil)))) (fun _ _ _ _ _ => pts_nil) (fun _ _ _ _ _ => (pe_tup (pa_cons (pv 5) (pa_cons (pv 7) pa_nil))))) pa_nil)) pa_nil))))
          pss_nil)))
      (pss_one (ps_ret (pv 3)))))), ?_⟩
    obtain ⟨a, cvs, rfl, ha, hc⟩ := hv.tup_inv
    have hcl : cvs.length = ts.length := by rw [hc.length, List.length_map]
    have ol := odd_len hl
    walk_at "st"
    refine ⟨_, rfl, a, rfl, ⟨_, ha⟩, fun D hD => lc_it walk_tup (fun i H' => H' D = some (.lst ((((ts.take i).filter fun t => decide (t.2 % 2 = 1)).map (·.1)).map V.str)) ∧ Kp [] H H') ⟨upd_same, Kp.new hD⟩ (fun i H' _ z => z.2.sqT ha) ?_ ?_⟩
    · rintro i w H1 H2 hi ⟨h1, k1⟩ ⟨rfl, hw⟩
      obtain ⟨p, hp, fp⟩ := hc.atm hw
      obtain ⟨b, rfl, sb⟩ := prD_inv fp
      refine ⟨b, _, rfl, k1.sqT sb, rfl, _, _, rfl, gnK ⟨_, _, rfl, gnK ⟨rfl, rfl, ?_⟩⟩⟩
      refine ⟨_, rfl, .inl ⟨_, rfl, _, _, rfl, rfl, (by show (0 : Int) < _; decide), rfl, _, rfl, ?_⟩⟩
      refine ite2 (fun e => ?_) (fun e => ?_)
      · have e' : decide (p.2 % 2 = 1) = true := by simpa using e
        refine ⟨_, rfl, _, h1, szl (by have := tk_filLen (p := fun t : Str × Int => decide (t.2 % 2 = 1)) (g := fun p : Str × Int => p.1) (xs := ts) i; rw [List.length_map]; omega), ?_, k1.put hD⟩
        rw [tk_filT hp e', List.map_append]; exact upd_same
      · have e' : decide (p.2 % 2 = 1) = false := by simpa using e
        exact ⟨by rw [tk_filF hp e']; exact h1, k1⟩
    rintro H1 ⟨h1, k1⟩
    rw [hcl, List.take_length] at h1
    have h1' : H1 D = some (.lst ((oddN ts).map V.str)) := h1
    walk_at "st"
    refine ⟨sz (by simp), fun l hl0 => ?_⟩
    have kl : Kp [] H1 (upd H1 l (.lst [])) := Kp.new hl0
    have hlH : H l = none := k1.none List.not_mem_nil hl0
    have sm := bitR_small (n := (oddN ts).length) ol
    refine seq_forK ⟨_, rfl, _, (oddN ts).length, rfl, .inl ⟨_, SqL.of (kl.get h1' (.inl List.not_mem_nil)), by simp⟩, (oddN ts).length, rfl, ol, fun t3 rvs H3 k3 s3 a3 => ?_⟩
    have hl3 := k3.get (a := l) upd_same (.inl List.not_mem_nil)
    have pv0 : PvF [] K 2 H1 l [] H3 := ⟨⟨[], hl3, .nil⟩, kl.trans k3⟩
    refine ⟨t3, rfl, ⟨_, s3⟩, for_seq walk_tup (fun i σ H' => (∃ v4 v5 v6 v7 : Option V, σ = [some (.ref a), some (.int rest), some (.ref D), some (.ref l), v4, v5, v6, v7]) ∧ PvF [] K 2 H1 l (((((bitR (oddN ts).length).take i).filter (wrong (oddN ts).length rest)).map fun s => (oddN ts).zip s).map prsD) H' ∧ SqT K H' t3 rvs ∧ FdAll K H' 1 rvs ((bitR (oddN ts).length).map rowD)) ⟨⟨_, _, _, _, rfl⟩, pv0, s3, a3⟩ (fun i σ H' _ z => z.2.2.1) ?_ ?_⟩
    · rintro i w σ H4 H5 hi ⟨⟨v4, v5, v6, v7, rfl⟩, pv, s4, a4⟩ ⟨rfl, hw⟩
      obtain ⟨r, hr, fr⟩ := a4.atm hw
      have lr := bitR_len (List.mem_of_getElem? hr)
      obtain ⟨b, rfl, sb⟩ := rowD_inv fr
      have hD5 := pv.kp.get h1' (.inl List.not_mem_nil)
      have fl : ((((bitR (oddN ts).length).take i).filter (wrong (oddN ts).length rest)).map fun s => (oddN ts).zip s).length ≤ 64 := by have := tk_filLen (p := wrong (oddN ts).length rest) (g := fun s => (oddN ts).zip s) (xs := bitR (oddN ts).length) i; omega
      refine gnK ?_
      refine if_anK ?_
      refine ⟨_, rfl, _, (oddN ts).length, rfl, .inl ⟨_, SqL.of hD5, by simp⟩, _, rfl, b, r, rfl, sb, _, _, rfl, rfl, _, rfl, _, _, rfl, rfl, .inl ⟨_, rfl, _, _, rfl, rfl, (by show (0 : Int) < _; decide), rfl, _, rfl, ?_⟩⟩
      refine ite2 (fun e => ?_) (fun e => ?_)
      · have e' : wrong (oddN ts).length rest r = true := by unfold wrong; simpa using e
        refine dropK' ?_
        obtain ⟨acc0, c0, _⟩ := pv.ex
        refine ⟨_, rfl, .inl ⟨rfl, _, SqL.of c0⟩, _, rfl, _, rfl, D, b, _, _, rfl, SqL.of hD5, sb, fun D2 hD2 => lc_it (walk_zipLT (by simp [lr])) (fun j H' => PvF [] K 1 H5 D2 ((((oddN ts).zip r).take j).map prD) H') (pvF_0 hD2) (fun j H' _ z => ⟨z.kp.sqL List.not_mem_nil (SqL.of hD5), z.kp.sqT sb⟩) ?_ ?_⟩
        · rintro j w2 H6 H7 hj pv6 ⟨T', x, y, rfl, hT, rfl, ex, ey⟩
          rw [List.getElem?_map] at ex ey
          obtain ⟨s, hs, rfl⟩ := Option.map_eq_some_iff.mp ex
          obtain ⟨z, hz, rfl⟩ := Option.map_eq_some_iff.mp ey
          have kT := Kp.new (A := []) (o := .tup [V.str s, V.int z]) hT
          refine ⟨T', _, rfl, SqT.of upd_same, rfl, _, _, rfl, gnK ⟨_, _, rfl, gnK ⟨rfl, rfl, ?_⟩⟩⟩
          refine yesK ?_
          refine iteT ?_
          refine ⟨_, rfl, _, rfl, sz (by simp), fun u hu => ?_⟩
          obtain ⟨acc, c1, c2, c3⟩ := pv6.step (kT.trans (Kp.new (o := .tup [.str s, .int z]) hu)) List.not_mem_nil hD2 (by have := tk_len (g := prD) (xs := (oddN ts).zip r) j; rw [List.length_zip] at this; omega) (pr_fd (n := 0) (SqT.of upd_same))
          exact ⟨acc, c1, c2, c3.to (tk_map (List.getElem?_zip_eq_some.mpr ⟨hs, hz⟩)).symm⟩
        rintro H6 pv6
        obtain ⟨acc, c1, c2⟩ := pv6.ex
        rw [List.length_map, List.take_of_length_le (by rw [List.length_zip]; omega)] at c2
        refine ⟨D2, acc, rfl, .inl ⟨SqL.of c1, fun u hu => ?_⟩⟩
        have ku := pv6.kp.trans (Kp.new (o := .tup acc) hu)
        obtain ⟨acc2, d1, d2, d3⟩ := pv.step ku List.not_mem_nil hl0 (by rw [List.length_map]; omega) (.tup (n := 1) (SqT.of upd_same) (c2.kp (Kp.new (A := []) hu)))
        have ko : Kp [l] H5 _ := ku.nil.trans (Kp.own d1 rfl (by simp) (o' := .lst (acc2 ++ [.ref u])))
        refine ⟨l, acc2, _, rfl, rfl, d1, d2, ⟨_, _, _, _, rfl⟩, d3.to ?_, ko.sqT s4, a4.kp ko⟩
        rw [tk_filT hr e', List.map_append]; rfl
      · have e' : wrong (oddN ts).length rest r = false := by unfold wrong; simpa using e
        exact ⟨⟨_, _, _, _, rfl⟩, pv.to (by rw [tk_filF hr e']), s4, a4⟩
    rintro σ H4 ⟨⟨v4, v5, v6, v7, rfl⟩, pv, s4, a4⟩
    obtain ⟨acc, c1, c2⟩ := pv.ex
    rw [a3.length, List.length_map, List.take_length] at c2
    walk_at "st"
    exact ⟨_, rfl, q l acc _ (k1.trans pv.kp) c1 c2 hlH⟩
def sp_bits_of_parities (K : PySem.W.Frag) (C : Addr) : Sp := fun vs H Q E => ∃ (v : V) (ns : List Str) (ps : List Par), vs = [v] ∧ Fd K H 5 v (thD ns (ps.map parD)) ∧ ps.length ≤ 10 ∧ (∀ p ∈ ps, p.1.length ≤ 6 ∧ p.2.2.natAbs ≤ 1000) ∧
  (∀ (k : Nat) (p : Par), ps[k]? = some p → okP p = false → (∀ (j : Nat) (q : Par), j < k → ps[j]? = some q → okP q = true) → ∀ d H1, Kp [] H H1 → H1 d = none → E (.ref C) (some d) (upd H1 d (.xd [("index", .int (k : Int))]))) ∧
  ((∀ p ∈ ps, okP p = true) → ∀ v' H', Kp [] H H' → Fd K H' 5 v' (thD ns ((ps.flatMap clsP).map prsD)) → Q v' H')
theorem ok_bits_of_parities (T : Txt K mg A D) : FnOk P w K mg base (L2.CX P w) 3 (A 9) (D 9) ["theory"] (sp_bits_of_parities K (A 5)) := by
  refine T.F_bits_of_parities.okX sc_bits_of_parities (fun vs H Q E h => ?_) (fun cdv A' outer s H vs Q E hr h => ?_)
  · obtain ⟨v, ns, ps, rfl, hv, hl, hg, q1, q2⟩ := h
    rfl
  · obtain ⟨v, ns, ps, rfl, hv, hl, hg, q1, q2⟩ := h
    have hu := hu_of hr
    have G_clauses_of : FnOk P w K mg base CX0 2 (A 8) (D 8) ["terms", "rest"] (sp_clauses_of K) := ok_clauses_of T
    have G_InvalidConstraint__init : FnOk P w K mg base CX0 1 (A 1100) (D 1100) ["self", "index"] (sp_err (A 5) "index") := ok_InvalidConstraint__init T
    refine ⟨_, (pss_cons (ps_set (i := 1) sc_bits_of_parities.nd rfl (Or.inl rfl) (pe_lst pa_nil))
      (pss_cons (ps_for (passes_of rfl) rfl (pi_range1 rfl T.z_range (pa_cons (pe_callB (id := "len") (cK_len (K := K) rfl) (by rfl) T.z_len (by decide +kernel) (pa_cons (pe_ix (xK_tup (K := K) rfl) (pv 0) pe_int (fun _ _ => rfl)) pa_nil)) pa_nil)) (pg_name (i := 2) sc_bits_of_parities.nd rfl (Or.inl rfl))
        (pss_cons (ps_asg (pe_ix (xK_tup (K := K) rfl) (pe_ix (xK_tup (K := K) rfl) (pv 0) pe_int (fun _ _ => rfl)) (pv 2) (fun _ _ => rfl)) (gK_tup (K := K) 3 rfl rfl (pgs_cons (pg_name (i := 3) sc_bits_of_parities.nd rfl (Or.inl rfl)) (pgs_cons (pg_name (i := 4) sc_bits_of_parities.nd rfl (Or.inl rfl)) (pgs_cons (pg_name (i := 5) sc_bits_of_parities.nd rfl (Or.inl rfl)) pgs_nil)))))
        (pss_one (ps_if (pt_cmpR op_eq (pv 4) pe_int (nomark _))
          (pss_one (ps_expr (pe_bm PySem.F.plainAttrs_list PySem.F.slot_list_extend PySem.F.type_list_extend mt_extend (pv 1) (pa_cons (pe_call G_clauses_of (hr.mono (by decide)) rfl T.g_clauses_of T.F_clauses_of.kp T.b_clauses_of .nil pass0 (pa_cons (pv 3) (pa_cons (pv 5) pa_nil))) pa_nil))))
          (pss_one (ps_if (pt_cmpR (oP_eq (K := K) rfl hr.units) (pe_ix (xK_tup (K := K) rfl) (pe_ix (xK_tup (K := K) rfl) (pv 0) pe_int (fun _ _ => rfl)) (pv 2) (fun _ _ => rfl)) (pe_glob (v := .ref (A 7)) rfl T.g_NEVER rfl) (nomark _))
            (pss_one (ps_expr (pe_bm PySem.F.plainAttrs_list PySem.F.slot_list_append PySem.F.type_list_append mt_append (pv 1) (pa_cons (pe_tup pa_nil) pa_nil))))
            (pss_one (ps_raise rfl (takes_of rfl rfl rfl rfl) (pmk_err T.E_InvalidConstraint G_InvalidConstraint__init (hr.mono (by decide)) rfl (pa_cons (pv 2) pa_nil))))))))))
      (pss_one (ps_ret (pe_tup (pa_cons (pe_ix (xK_tup (K := K) rfl) (pv 0) pe_int (fun _ _ => rfl)) (pa_cons (pe_callTy (T := "tuple") (cK_tuple (K := K) rfl) (by rfl) T.z_tuple (by decide +kernel) (pa_cons (pv 1) pa_nil)) pa_nil))))))), ?_⟩
    obtain ⟨t, x, y, cvs, rfl, h0, hx, hy, hcs⟩ := thD_inv (n := 3) hv
    have hcl : cvs.length = ps.length := by rw [hcs.length, List.length_map]
    walk_at "st"
    refine ⟨sz (by simp), fun l hl0 => ?_⟩
    have kl : Kp [] H (upd H l (.lst [])) := Kp.new hl0
    have cs : ∀ {p : Par}, p ∈ ps → (clsP p).length ≤ 64 := fun {p} hp => by
      unfold clsP
      split
      · exact clsOf_small (hg p hp).1
      · decide
    refine seq_forK ⟨_, rfl, t, _, 1, _, rfl, rfl, kl.sqT h0, rfl, _, ps.length, rfl, .inr ⟨_, kl.sqT hy, hcl.symm⟩, _, rfl, by omega, by omega, for_seq walk_range (fun i σ H' => (∃ v2 v3 v4 v5 : Option V, σ = [some (.ref t), some (.ref l), v2, v3, v4, v5]) ∧ PvF [] K 2 H l (((ps.take i).flatMap clsP).map prsD) H' ∧ ∀ (j : Nat) (q : Par), j < i → ps[j]? = some q → okP q = true) ⟨⟨_, _, _, _, rfl⟩, pvF_0 hl0, fun j q h => absurd h (Nat.not_lt_zero _)⟩ (fun _ _ _ _ _ => trivial) ?_ ?_⟩
    · rintro i w σ H1 H2 hi ⟨⟨v2, v3, v4, v5, rfl⟩, pv, hok⟩ ⟨rfl, rfl⟩
      have hi' : i < ps.length := hi
      obtain ⟨p, hp⟩ : ∃ p, ps[i]? = some p := ⟨_, List.getElem?_eq_getElem hi'⟩
      have pm := List.mem_of_getElem? hp
      obtain ⟨pw, hpw, fp⟩ := hcs.atm' hp
      have fl : ((ps.take i).flatMap clsP).length ≤ 64 * 10 := by
        rw [List.flatMap]
        have := flatten_le (k := 64) (xss := (ps.take i).map clsP) fun xs hx => by
          obtain ⟨p', hp', rfl⟩ := List.mem_map.mp hx
          exact cs (List.mem_of_mem_take hp')
        rw [List.length_map, List.length_take] at this
        omega
      have fp' := fp.kp pv.kp
      obtain ⟨a, xw, rfl, sa, fx⟩ := parD_inv fp'
      have hpw' : cvs[i]? = some (V.ref a) := hpw
      refine gnK ?_
      refine ⟨_, rfl, t, _, 1, _, rfl, rfl, pv.kp.sqT h0, rfl, _, rfl, y, cvs, _, _, rfl, rfl, pv.kp.sqT hy, atI_nat' hpw' (by simp), a, _, rfl, sa, rfl, _, _, rfl, gnK ⟨_, _, rfl, gnK ⟨_, _, rfl, gnK ⟨rfl, ?_⟩⟩⟩⟩
      dsimp only
      refine if_anK ?_
      refine ⟨_, rfl, rfl, _, rfl, ?_⟩
      refine ite2 (fun e => ?_) (fun e => ?_)
      · have e' : p.2.1 = 2 := by simpa using e
        refine dropK' ?_
        obtain ⟨acc0, c0, _⟩ := pv.ex
        refine ⟨_, rfl, .inl ⟨rfl, _, SqL.of c0⟩, _, rfl, _, rfl, xw, p.1, p.2.2, rfl, fx, (hg p pm).1, (hg p pm).2, fun b xs H3 k3 hb fxs nb => ?_⟩
        obtain ⟨acc, c1, c2, c3⟩ := pv.ext k3 List.not_mem_nil hl0 (by have := clsOf_small (rest := p.2.2) (hg p pm).1; rw [List.length_map, List.length_map]; omega) fxs
        refine ⟨l, b, acc, xs, rfl, rfl, c1, hb, c2, ⟨_, _, _, _, rfl⟩, c3.to ?_, fun j q hj hq => ?_⟩
        · rw [tk_flat hp, List.map_append, clsP, if_pos e']
        · rcases Nat.lt_succ_iff_lt_or_eq.mp hj with h | h
          · exact hok j q h hq
          · subst h; rw [hp] at hq; cases hq; unfold okP; rw [decide_eq_true e']; rfl
      · have e' : p.2.1 ≠ 2 := by simpa using e
        refine if_anK ?_
        refine ⟨_, rfl, t, _, 1, _, rfl, rfl, pv.kp.sqT h0, rfl, _, rfl, y, cvs, _, _, rfl, rfl, pv.kp.sqT hy, atI_nat' hpw' (by simp), _, _, fp'.dp, (T.d_NEVER [] _).dp, fp'.pln (by decide), ⟨by decide, by decide⟩, _, rfl, ?_⟩
        rw [show PyData.eqv (parD p) _ = decide (p = never) from eqv_never p]
        refine ite2 (fun c => ?_) (fun c => ?_)
        · have ep : p = never := by simpa using c
          refine dropK' ?_
          obtain ⟨acc0, c0, _⟩ := pv.ex
          refine ⟨_, rfl, .inl ⟨rfl, _, SqL.of c0⟩, sz (by simp), fun u hu => ?_⟩
          obtain ⟨acc, c1, c2, c3⟩ := pv.step (Kp.new (A := []) (o := .tup []) hu) List.not_mem_nil hl0 (by rw [List.length_map]; omega) (.tup (n := 1) (SqT.of upd_same) .nil)
          refine ⟨l, acc, _, rfl, rfl, c1, c2, ⟨_, _, _, _, rfl⟩, c3.to ?_, fun j q hj hq => ?_⟩
          · rw [tk_flat hp, List.map_append, clsP, if_neg e']; rfl
          · rcases Nat.lt_succ_iff_lt_or_eq.mp hj with h | h
            · exact hok j q h hq
            · subst h; rw [hp] at hq; cases hq; unfold okP; rw [decide_eq_true ep, Bool.or_true]
        · have ep : p ≠ never := by simpa using c
          refine ⟨_, rfl, mkO_of ⟨_, rfl, fun d hd => ?_⟩⟩
          have := q1 i p hp (by unfold okP; rw [decide_eq_false e', decide_eq_false ep]; rfl) hok d _ pv.kp hd
          simpa using this
    rintro σ H1 ⟨⟨v2, v3, v4, v5, rfl⟩, pv, hok⟩
    obtain ⟨acc, c1, c2⟩ := pv.ex
    have e1 : ((ps.length : Nat) : Int).toNat = ps.length := rfl
    rw [e1, List.take_length] at c2
    walk_at "st"
    refine ⟨_, rfl, t, _, 0, _, rfl, rfl, pv.kp.sqT h0, rfl, _, rfl, l, acc, rfl, .inl ⟨SqL.of c1, fun u hu => ⟨sz (by simp), fun z hz => ?_⟩⟩⟩
    have ku := Kp.new (A := []) (o := .tup acc) hu
    have kz := Kp.new (A := []) (o := .tup [.ref x, .ref u]) hz
    have kk := pv.kp.trans (ku.trans kz)
    refine q2 (fun p hp => ?_) _ _ kk (thD_mk (n := 3) (SqT.of upd_same) (kk.sqT hx) (kz.sqT (SqT.of upd_same)) (c2.kp (ku.trans kz)).up)
    obtain ⟨j, hj⟩ := List.getElem?_of_mem hp
    exact hok j p (by rw [e1]; exact (List.getElem?_eq_some_iff.mp hj).1) hj
def sp__law_some (K : PySem.W.Frag) : Sp := fun vs H Q _ => ∃ (s a : Addr) (ns : List Str) (most : Int), vs = [.ref s, .ref a, .int most] ∧ Src H s ∧ SqL K H a (ns.map V.str) ∧ a ≠ s ∧ ns.length ≤ 10 ∧ 0 ≤ most ∧ most ≤ 10 ∧
  ∀ p (ys : List Str) H', H p = none → Kp [s] H H' → Src H' s → H' p = some (.lst (ys.map V.str)) → ys.Sublist ns → (ys.length : Int) ≤ most → Q (.ref p) H'
theorem ok__law_some (T : Txt K mg A D) : FnOk P w K mg base CX0 2 (A 23) (D 23) ["_law_source_here", "_law_names", "_law_most"] (sp__law_some K) := by
  refine T.F__law_some.ok sc__law_some (fun vs H Q E h => ?_) (fun cdv A' outer s H vs Q E hr h => ?_)
  · obtain ⟨s, a, ns, most, rfl, hs, ha, ne, hl, m0, m1, q⟩ := h
    rfl
  · obtain ⟨s, a, ns, most, rfl, hs, ha, ne, hl, m0, m1, q⟩ := h
    have hu := hu_of hr
    have G__law_draw : FnOk P w K mg base CX0 1 (A 22) (D 22) ["_law_source_here", "_law_limit"] (sp__law_draw K) := ok__law_draw T
    refine ⟨_, (pss_cons (ps_set (i := 3) sc__law_some.nd rfl (Or.inl rfl) (pe_lst pa_nil))
      (pss_cons (ps_for PassesOwn.never rfl (iK_list (K := K) rfl (pv 1)) (pg_name (i := 4) sc__law_some.nd rfl (Or.inl rfl))
        (pss_one (ps_if (PW.pt (pw_and (pt_cmpR op_lt (pe_callB (id := "len") (cK_len (K := K) rfl) (by rfl) T.z_len (by decide +kernel) (pa_cons (pv 3) pa_nil)) (pv 2) (nomark _)) (pw_and1 (pt_cmpR op_gt (pe_call G__law_draw (hr.mono (by decide)) rfl T.g__law_draw T.F__law_draw.kp T.b__law_draw .nil pass0 (pa_cons (pv 0) (pa_cons pe_int pa_nil))) pe_int (nomark _)))))
          (pss_one (ps_expr (pe_bm PySem.F.plainAttrs_list PySem.F.slot_list_append PySem.F.type_list_append mt_append (pv 3) (pa_cons (pv 4) pa_nil))))
          pss_nil)))
      (pss_one (ps_ret (pv 3))))), ?_⟩
    walk_at "st"
    refine ⟨sz (by simp), fun p hp => ?_⟩
    have ps : p ≠ s := fun e => by subst e; obtain ⟨_, _, e⟩ := hs; rw [hp] at e; cases e
    refine seq_forK ⟨_, rfl, a, rfl, ⟨_, (Kp.new (A := []) hp).sqL List.not_mem_nil ha⟩, for_seq walk_list (fun i σ H' => (∃ v4 : Option V, σ = [some (.ref s), some (.ref a), some (.int most), some (.ref p), v4]) ∧ ∃ ys : List Str, H' p = some (.lst (ys.map V.str)) ∧ ys.Sublist (ns.take i) ∧ (ys.length : Int) ≤ most ∧ Kp [s] H H' ∧ Src H' s) ⟨⟨_, rfl⟩, [], upd_same, List.nil_sublist _, by simpa using m0, Kp.new hp, hs.kp (Kp.new (A := []) hp) List.not_mem_nil⟩ (fun i σ H' _ z => by obtain ⟨_, _, _, _, _, k, _⟩ := z; exact k.sqL (by simpa using ne) ha) ?_ ?_⟩
    · rintro i w σ H1 H2 hi ⟨⟨v4, rfl⟩, ys, h1, sub, yl, k1, s1⟩ ⟨rfl, hw⟩
      rw [List.getElem?_map] at hw
      obtain ⟨z, hz, rfl⟩ := Option.map_eq_some_iff.mp hw
      have sub' : ys.Sublist (ns.take (i + 1)) := sub.trans (List.take_sublist_take_left (Nat.le_succ i))
      refine gnK ?_
      refine if_anK ?_
      refine ⟨_, rfl, _, ys.length, rfl, .inl ⟨_, SqL.of h1, by simp⟩, _, rfl, _, _, rfl, rfl, _, rfl, ?_⟩
      refine ite2 (fun c => ?_) (fun c => ?_)
      · have c' : (ys.length : Int) < most := by simpa using c
        refine ⟨_, rfl, s, 3, rfl, s1, by decide, by decide, fun r H3 r0 r1 k3 s3 => ?_⟩
        have h3 := k3.get h1 (.inl (by simpa using ps))
        refine ⟨_, _, rfl, rfl, _, rfl, ?_⟩
        refine ite2 (fun c => ?_) (fun c => ?_)
        · refine dropK' ?_
          refine ⟨_, rfl, .inl ⟨rfl, _, SqL.of h3⟩, _, rfl, p, _, _, rfl, rfl, h3, szl (by rw [List.length_map]; omega), ⟨_, rfl⟩, ys ++ [z], ?_, ?_, ?_, (k1.trans k3).put hp, ?_⟩
          · rw [upd_same, List.map_append]; rfl
          · rw [List.take_add_one, hz]; exact sub.append (List.Sublist.refl _)
          · rw [List.length_append]; simp; omega
          · exact s3.kp (Kp.own (A := [p]) h3 rfl (by simp)) (by simpa using Ne.symm ps)
        · exact ⟨⟨_, rfl⟩, ys, h3, sub', yl, k1.trans k3, s3⟩
      · exact ⟨⟨_, rfl⟩, ys, h1, sub', yl, k1, s1⟩
    rintro σ H1 ⟨⟨v4, rfl⟩, ys, h1, sub, yl, k1, s1⟩
    walk_at "st"
    exact ⟨_, rfl, q p ys _ hp k1 s1 h1 (by rw [List.length_map, List.take_length] at sub; exact sub) yl⟩
def sp__law_bound (K : PySem.W.Frag) : Sp := fun vs H Q _ => ∃ (s : Addr), vs = [.ref s] ∧ Src H s ∧ ∀ (i : Int) H', Kp [s] H H' → Src H' s → Q (.int i) H'
theorem ok__law_bound (T : Txt K mg A D) : FnOk P w K mg base CX0 2 (A 24) (D 24) ["_law_source_here"] (sp__law_bound K) := by
  refine T.F__law_bound.ok sc__law_bound (fun vs H Q E h => ?_) (fun cdv A' outer s H vs Q E hr h => ?_)
  · obtain ⟨s, rfl, hs, q⟩ := h
    rfl
  · obtain ⟨s, rfl, hs, q⟩ := h
    have hu := hu_of hr
    have G__law_draw : FnOk P w K mg base CX0 1 (A 22) (D 22) ["_law_source_here", "_law_limit"] (sp__law_draw K) := ok__law_draw T
    refine ⟨_, (pss_cons (ps_if (pt_cmpR op_eq (pe_call G__law_draw (hr.mono (by decide)) rfl T.g__law_draw T.F__law_draw.kp T.b__law_draw .nil pass0 (pa_cons (pv 0) (pa_cons pe_int pa_nil))) pe_int (nomark _))
        (pss_one (ps_ret (pe_op op_sub (pe_call G__law_draw (hr.mono (by decide)) rfl T.g__law_draw T.F__law_draw.kp T.b__law_draw .nil pass0 (pa_cons (pv 0) (pa_cons pe_int pa_nil))) pe_int)))
        pss_nil)
      (pss_one (ps_ret (pe_op op_sub (pe_call G__law_draw (hr.mono (by decide)) rfl T.g__law_draw T.F__law_draw.kp T.b__law_draw .nil pass0 (pa_cons (pv 0) (pa_cons pe_int pa_nil))) pe_int)))), ?_⟩
    refine seq_ifK0 ?_
    refine ⟨_, rfl, s, 4, rfl, hs, by decide, by decide, fun r H1 r0 r1 k1 s1 => ?_⟩
    refine ⟨rfl, _, rfl, ?_⟩
    refine ite2 (fun c => ?_) (fun c => ?_)
    · refine retK ?_
      refine ⟨_, rfl, s, 199, rfl, s1, by decide, by decide, fun r2 H2 r0' r1' k2 s2 => ⟨_, _, rfl, rfl, q _ _ (k1.trans k2) s2⟩⟩
    · refine retK ?_
      refine ⟨_, rfl, s, 9, rfl, s1, by decide, by decide, fun r2 H2 r0' r1' k2 s2 => ⟨_, _, rfl, rfl, q _ _ (k1.trans k2) s2⟩⟩
def sp__law_constraint (K : PySem.W.Frag) : Sp := fun vs H Q _ => ∃ (s a : Addr) (ns : List Str), vs = [.ref s, .ref a] ∧ Src H s ∧ SqL K H a (ns.map V.str) ∧ a ≠ s ∧ ns.length ≤ 10 ∧ (∀ t ∈ ns, t.length ≤ 1000) ∧ ∀ v' (c : Str × Str × Int) H', Kp [s] H H' → Src H' s → Fd K H' 1 v' (consD c) → Q v' H'
theorem ok__law_constraint (T : Txt K mg A D) : FnOk P w K mg base CX0 3 (A 25) (D 25) ["_law_source_here", "_law_names"] (sp__law_constraint K) := by
  refine T.F__law_constraint.ok sc__law_constraint (fun vs H Q E h => ?_) (fun cdv A' outer s H vs Q E hr h => ?_)
  · obtain ⟨s, a, ns, rfl, hs, ha, ne, hl, hw, q⟩ := h
    rfl
  · obtain ⟨s, a, ns, rfl, hs, ha, ne, hl, hw, q⟩ := h
    have hu := hu_of hr
    have G__law_draw : FnOk P w K mg base CX0 1 (A 22) (D 22) ["_law_source_here", "_law_limit"] (sp__law_draw K) := ok__law_draw T
    have G__law_bound : FnOk P w K mg base CX0 2 (A 24) (D 24) ["_law_source_here"] (sp__law_bound K) := ok__law_bound T
    refine ⟨_, (pss_cons (ps_set (i := 2) sc__law_constraint.nd rfl (Or.inl rfl) (pe_op op_cat (pe_lst (pa_cons pe_str pa_nil)) (pe_callTy (T := "list") (cK_list (K := K) rfl) (by rfl) T.z_list (by decide +kernel) (pa_cons (pv 1) pa_nil))))
      (pss_cons (ps_set (i := 3) sc__law_constraint.nd rfl (Or.inl rfl) (pe_ix (xK_list (K := K) rfl) (pv 2) (pe_call G__law_draw (hr.mono (by decide)) rfl T.g__law_draw T.F__law_draw.kp T.b__law_draw .nil pass0 (pa_cons (pv 0) (pa_cons (pe_callB (id := "len") (cK_len (K := K) rfl) (by rfl) T.z_len (by decide +kernel) (pa_cons (pv 2) pa_nil)) pa_nil))) (fun _ _ => rfl)))
      (pss_cons (ps_set (i := 4) sc__law_constraint.nd rfl (Or.inl rfl) (pe_ix (xK_list (K := K) rfl) (pv 2) (pe_call G__law_draw (hr.mono (by decide)) rfl T.g__law_draw T.F__law_draw.kp T.b__law_draw .nil pass0 (pa_cons (pv 0) (pa_cons (pe_callB (id := "len") (cK_len (K := K) rfl) (by rfl) T.z_len (by decide +kernel) (pa_cons (pv 2) pa_nil)) pa_nil))) (fun _ _ => rfl)))
      (pss_cons (ps_if (PW.pt (pw_and (pt_cmpR op_eq (pv 3) (pv 4) (nomark _)) (pw_and1 (pt_cmpR op_ne (pv 3) pe_str (nomark _)))))
        (pss_one (ps_set (i := 4) sc__law_constraint.nd rfl (Or.inl rfl) pe_str))
        pss_nil)
      (pss_one (ps_ret (pe_tup (pa_cons (pv 3) (pa_cons (pv 4) (pa_cons (pe_call G__law_bound (hr.mono (by decide)) rfl T.g__law_bound T.F__law_bound.kp T.b__law_bound .nil pass0 (pa_cons (pv 0) pa_nil)) pa_nil)))))))))), ?_⟩
    have full : ∀ {i : Int}, 0 ≤ i → i < ((ns.length + 1 : Nat) : Int) → ∃ (j : Nat) (t : Str), i = (j : Int) ∧ (("" : Str) :: ns)[j]? = some t := fun {i} h0 h1 => by
      obtain ⟨j, rfl⟩ := Int.eq_ofNat_of_zero_le h0
      exact ⟨j, _, rfl, List.getElem?_eq_getElem (by rw [List.length_cons]; omega)⟩
    walk_at "st"
    refine ⟨sz (by simp), fun e he => ⟨_, rfl, a, _, rfl, .inl ((Kp.new (A := []) he).sqL List.not_mem_nil ha), fun e2 he2 => ?_⟩⟩
    have k0 := (Kp.new (A := []) (o := .lst [.str ""]) he).trans (Kp.new (o := .lst (ns.map V.str)) he2)
    refine ⟨e, e2, _, _, rfl, rfl, (Kp.new (A := []) he2).get upd_same (.inl List.not_mem_nil), upd_same, sz (by simp; omega), fun l hl' => ?_⟩
    have k1 := k0.trans (Kp.new (o := .lst ([.str ""] ++ ns.map V.str)) hl')
    have h1 : (upd (upd (upd H e (.lst [.str ""])) e2 (.lst (ns.map V.str))) l (.lst ([.str ""] ++ ns.map V.str))) l = some (.lst ((("" : Str) :: ns).map V.str)) := upd_same
    generalize upd (upd (upd H e (.lst [.str ""])) e2 (.lst (ns.map V.str))) l (.lst ([.str ""] ++ ns.map V.str)) = H1 at k1 h1
    have hl0 : H l = none := k0.none List.not_mem_nil hl'
    have ls : l ≠ s := fun e => by subst e; obtain ⟨_, _, e⟩ := hs; rw [hl0] at e; cases e
    have ls' : l ∉ [s] := by simpa using ls
    walk_at "st"
    refine ⟨_, rfl, _, rfl, _, rfl, _, ns.length + 1, rfl, .inl ⟨_, SqL.of h1, by simp⟩, s, _, rfl, hs.kp k1 List.not_mem_nil, by omega, by omega, fun i H2 i0 i1 k2 s2 => ?_⟩
    obtain ⟨j, x, rfl, hx⟩ := full i0 i1
    have h2 := k2.get h1 (.inl ls')
    refine ⟨l, _, _, .str x, rfl, rfl, SqL.of h2, atI_nat (by rw [List.getElem?_map, hx]; rfl), ?_⟩
    walk_at "st"
    refine ⟨_, rfl, _, rfl, _, rfl, _, ns.length + 1, rfl, .inl ⟨_, SqL.of h2, by simp⟩, s, _, rfl, s2, by omega, by omega, fun i H3 i0 i1 k3 s3 => ?_⟩
    obtain ⟨j2, y, rfl, hy⟩ := full i0 i1
    have h3 := k3.get h2 (.inl ls')
    refine ⟨l, _, _, .str y, rfl, rfl, SqL.of h3, atI_nat (by rw [List.getElem?_map, hy]; rfl), ?_⟩
    have k13 : Kp [s] H H3 := k1.nil.trans (k2.trans k3)
    walk_at "st"
    refine ⟨_, rfl, _, rfl, rfl, _, rfl, ?_⟩
    refine ite2 (fun c => ?_) (fun c => ?_)
    · refine ⟨_, rfl, rfl, _, rfl, ?_⟩
      refine ite2 (fun c => ?_) (fun c => ?_)
      · refine setK ?_
        walk_at "st"
        refine ⟨_, rfl, _, rfl, _, rfl, s, rfl, s3, fun b H4 k4 s4 => ⟨sz (by simp), fun u hu => ?_⟩⟩
        exact q _ (x, "", b) _ ((k13.trans k4).trans (Kp.new hu)) (s4.kp (Kp.new (A := []) hu) List.not_mem_nil) (.tup (SqT.of upd_same) (.cons (.str _) (.cons (.str _) (.cons (.int _) .nil))))
      · skip
        walk_at "st"
        refine ⟨_, rfl, _, rfl, _, rfl, s, rfl, s3, fun b H4 k4 s4 => ⟨sz (by simp), fun u hu => ?_⟩⟩
        exact q _ (x, y, b) _ ((k13.trans k4).trans (Kp.new hu)) (s4.kp (Kp.new (A := []) hu) List.not_mem_nil) (.tup (SqT.of upd_same) (.cons (.str _) (.cons (.str _) (.cons (.int _) .nil))))
    · refine iteF ?_
      walk_at "st"
      refine ⟨_, rfl, _, rfl, _, rfl, s, rfl, s3, fun b H4 k4 s4 => ⟨sz (by simp), fun u hu => ?_⟩⟩
      exact q _ (x, y, b) _ ((k13.trans k4).trans (Kp.new hu)) (s4.kp (Kp.new (A := []) hu) List.not_mem_nil) (.tup (SqT.of upd_same) (.cons (.str _) (.cons (.str _) (.cons (.int _) .nil))))
def sp__law_theory (K : PySem.W.Frag) : Sp := fun vs H Q _ => ∃ (s : Addr), vs = [.ref s] ∧ Src H s ∧ ∀ v' (ns : List Str) (cs : List (Str × Str × Int)) H', Kp [s] H H' → Src H' s → cs.length ≤ 8 → Fd K H' 3 v' (thD ns (cs.map consD)) → Q v' H'
theorem ok__law_theory (T : Txt K mg A D) : FnOk P w K mg base CX0 4 (A 26) (D 26) ["_law_source_here"] (sp__law_theory K) := by
  refine T.F__law_theory.ok sc__law_theory (fun vs H Q E h => ?_) (fun cdv A' outer s H vs Q E hr h => ?_)
  · obtain ⟨s, rfl, hs, q⟩ := h
    rfl
  · obtain ⟨s, rfl, hs, q⟩ := h
    have hu := hu_of hr
    have G__law_some : FnOk P w K mg base CX0 2 (A 23) (D 23) ["_law_source_here", "_law_names", "_law_most"] (sp__law_some K) := ok__law_some T
    have G__law_draw : FnOk P w K mg base CX0 1 (A 22) (D 22) ["_law_source_here", "_law_limit"] (sp__law_draw K) := ok__law_draw T
    have G__law_constraint : FnOk P w K mg base CX0 3 (A 25) (D 25) ["_law_source_here", "_law_names"] (sp__law_constraint K) := ok__law_constraint T
    refine ⟨_, (pss_cons (ps_set (i := 1) sc__law_theory.nd rfl (Or.inl rfl) (pe_lst (pa_cons pe_str (pa_cons pe_str (pa_cons pe_str (pa_cons pe_str (pa_cons pe_str (pa_cons pe_str (pa_cons pe_str (pa_cons pe_str pa_nil))))))))))
      (pss_cons (ps_set (i := 2) sc__law_theory.nd rfl (Or.inl rfl) (pe_call G__law_some (hr.mono (by decide)) rfl T.g__law_some T.F__law_some.kp T.b__law_some .nil pass0 (pa_cons (pv 0) (pa_cons (pe_slice sl_list (pv 1) (po_some (pe_call G__law_draw (hr.mono (by decide)) rfl T.g__law_draw T.F__law_draw.kp T.b__law_draw .nil pass0 (pa_cons (pv 0) (pa_cons pe_int pa_nil)))) po_none) (pa_cons (pe_call G__law_draw (hr.mono (by decide)) rfl T.g__law_draw T.F__law_draw.kp T.b__law_draw .nil pass0 (pa_cons (pv 0) (pa_cons pe_int pa_nil))) pa_nil)))))
      (pss_cons (ps_set (i := 3) sc__law_theory.nd rfl (Or.inl rfl) (pe_lst pa_nil))
      (pss_cons (ps_for PassesOwn.never rfl (pi_range1 rfl T.z_range (pa_cons (pe_call G__law_draw (hr.mono (by decide)) rfl T.g__law_draw T.F__law_draw.kp T.b__law_draw .nil pass0 (pa_cons (pv 0) (pa_cons pe_int pa_nil))) pa_nil)) (pg_name (i := 4) sc__law_theory.nd rfl (Or.inl rfl))
        (pss_one (ps_expr (pe_bm PySem.F.plainAttrs_list PySem.F.slot_list_append PySem.F.type_list_append mt_append (pv 3) (pa_cons (pe_call G__law_constraint (hr.mono (by decide)) rfl T.g__law_constraint T.F__law_constraint.kp T.b__law_constraint .nil pass0 (pa_cons (pv 0) (pa_cons (pv 2) pa_nil))) pa_nil)))))
      (pss_one (ps_ret (pe_tup (pa_cons (pe_callTy (T := "tuple") (cK_tuple (K := K) rfl) (by rfl) T.z_tuple (by decide +kernel) (pa_cons (pv 2) pa_nil)) (pa_cons (pe_callTy (T := "tuple") (cK_tuple (K := K) rfl) (by rfl) T.z_tuple (by decide +kernel) (pa_cons (pv 3) pa_nil)) pa_nil))))))))), ?_⟩
    walk_at "st"
    refine ⟨sz (by simp), fun p0 hp0 => ?_⟩
    have ps0 := ne_src hs hp0
    have k0 : Kp [s] H (upd H p0 (.lst (poolA.map V.str))) := Kp.new hp0
    have s0 : Src (upd H p0 (.lst (poolA.map V.str))) s := hs.kp (Kp.new (A := []) hp0) List.not_mem_nil
    have h0 : (upd H p0 (.lst (poolA.map V.str))) p0 = some (.lst (poolA.map V.str)) := upd_same
    walk_at "st"
    refine ⟨_, rfl, _, rfl, _, rfl, s, 4, rfl, s0, by decide, by decide, fun d1 H1 d10 d11 k1 s1 => ⟨d1, rfl, p0, _, rfl, SqL.of (k1.get h0 (.inl (by simpa using ps0))), fun p1 hp1 => ?_⟩⟩
    obtain ⟨ms, em, sub0⟩ := cut_strs poolA (some d1) none
    have h1 : upd H1 p1 (.lst (cutV (poolA.map V.str) (some d1) none)) p1 = some (.lst (ms.map V.str)) := by rw [upd_same, em]
    have s1' : Src (upd H1 p1 (.lst (cutV (poolA.map V.str) (some d1) none))) s := s1.kp (Kp.new (A := []) hp1) List.not_mem_nil
    have k01 : Kp [s] H (upd H1 p1 (.lst (cutV (poolA.map V.str) (some d1) none))) := k0.trans (k1.trans (Kp.new hp1))
    have ps1 := ne_src s1 hp1
    generalize upd H1 p1 (.lst (cutV (poolA.map V.str) (some d1) none)) = H2 at h1 s1' k01
    refine ⟨_, rfl, s, 5, rfl, s1', by decide, by decide, fun d2 H3 d20 d21 k3 s3 => ?_⟩
    refine ⟨s, p1, ms, d2, rfl, s3, SqL.of (k3.get h1 (.inl (by simpa using ps1))), ps1, (by
        have := sub0.length_le
        have e8 : poolA.length ≤ 8 := by decide +kernel
        omega), by omega, by omega, fun p ys H4 hp k4 s4 h4 sub yl => ?_⟩
    have k04 : Kp [s] H H4 := k01.trans (k3.trans k4)
    have ps := ne_src s3 hp
    have subp := sub.trans sub0
    walk_at "st"
    refine ⟨sz (by simp), fun l hl => ?_⟩
    have hl0 : H l = none := by
      cases e : H l with
      | none => rfl
      | some o =>
        have := k04 l o e (.inl (by simpa using ne_src s4 hl))
        rw [hl] at this; cases this
    have ls := ne_src s4 hl
    have ls' : l ∉ [s] := by simpa using ls
    have kl : Kp [s] H4 (upd H4 l (.lst [])) := Kp.new hl
    refine seq_forK ⟨_, rfl, s, 9, rfl, s4.kp (Kp.new (A := []) hl) List.not_mem_nil, by decide, by decide, fun n H5 n0 n1 k5 s5 => ⟨n, rfl, by omega, by omega, for_seq walk_range (fun i σ H' => (∃ v4 : Option V, σ = [some (.ref s), some (.ref p0), some (.ref p), some (.ref l), v4]) ∧ ∃ cs : List (Str × Str × Int), cs.length = i ∧ PvF [s] K 1 H4 l (cs.map consD) H' ∧ Src H' s) ⟨⟨_, rfl⟩, [], rfl, ⟨⟨[], k5.get (a := l) upd_same (.inl ls'), .nil⟩, kl.trans k5⟩, s5⟩ (fun _ _ _ _ _ => trivial) ?_ ?_⟩⟩
    · rintro i w σ H6 H7 hi ⟨⟨v4, rfl⟩, cs, cl, pv, s6⟩ ⟨rfl, rfl⟩
      have hi' : i < n.toNat := hi
      refine gnK ?_
      refine dropK' ?_
      obtain ⟨acc0, c0, _⟩ := pv.ex
      refine ⟨_, rfl, .inl ⟨rfl, _, SqL.of c0⟩, _, rfl, _, rfl, s, p, ys, rfl, s6, SqL.of (pv.kp.get h4 (.inl (by simpa using ps))), ps, by have := subp.length_le; have : poolA.length = 8 := rfl; omega, fun t ht => poolA_len t (subp.subset ht), fun v' c H8 k8 s8 f8 => ?_⟩
      obtain ⟨acc, c1, c2, c3⟩ := pv.step k8 ls' hl (by rw [List.length_map]; omega) f8
      exact ⟨l, acc, _, rfl, rfl, c1, c2, ⟨_, rfl⟩, cs ++ [c], by simp [cl], c3.to (by rw [List.map_append]; rfl), s8.kp (Kp.own (A := [l]) c1 rfl (by simp)) (by simpa using Ne.symm ls)⟩
    rintro σ H6 ⟨⟨v4, rfl⟩, cs, cl, pv, s6⟩
    obtain ⟨acc, c1, c2⟩ := pv.ex
    walk_at "st"
    refine ⟨_, rfl, p, _, rfl, .inl ⟨SqL.of (pv.kp.get h4 (.inl (by simpa using ps))), fun u hu => ?_⟩⟩
    have ku := Kp.new (A := []) (o := .tup (ys.map V.str)) hu
    refine ⟨_, rfl, l, acc, rfl, .inl ⟨SqL.of (ku.get c1 (.inl List.not_mem_nil)), fun u2 hu2 => ⟨sz (by simp), fun z hz => ?_⟩⟩⟩
    have ku2 := Kp.new (A := []) (o := .tup acc) hu2
    have kz := Kp.new (A := []) (o := .tup [.ref u, .ref u2]) hz
    have kk := ku.trans (ku2.trans kz)
    exact q _ ys cs _ (k04.trans (pv.kp.trans kk.nil)) (s6.kp kk List.not_mem_nil) (by omega) (thD_mk (SqT.of upd_same) ((ku2.trans kz).sqT (SqT.of upd_same)) (kz.sqT (SqT.of upd_same)) (c2.kp kk))
def sp__law_bit_rows (K : PySem.W.Frag) : Sp := fun vs H Q _ => ∃ n : Nat, vs = [.int (n : Int)] ∧ n ≤ 6 ∧ ∀ p xs H', Kp [] H H' → H p = none → H' p = some (.lst xs) → FdAll K H' 1 xs ((bitR n).map rowD) → Q (.ref p) H'
theorem ok__law_bit_rows (T : Txt K mg A D) : FnOk P w K mg base CX0 1 (A 27) (D 27) ["_law_count"] (sp__law_bit_rows K) := by
  refine T.F__law_bit_rows.ok sc__law_bit_rows (fun vs H Q E h => ?_) (fun cdv A' outer s H vs Q E hr h => ?_)
  · obtain ⟨n, rfl, hn, q⟩ := h
    rfl
  · obtain ⟨n, rfl, hn, q⟩ := h
    have hu := hu_of hr
    refine ⟨_, (pss_cons (ps_set (i := 1) sc__law_bit_rows.nd rfl (Or.inl rfl) (pe_lst (pa_cons (pe_tup pa_nil) pa_nil)))
      (pss_cons (ps_for PassesOwn.never rfl (pi_range1 rfl T.z_range (pa_cons (pv 0) pa_nil)) (pg_name (i := 2) sc__law_bit_rows.nd rfl (Or.inl rfl))
        (pss_cons (ps_set (i := 3) sc__law_bit_rows.nd rfl (Or.inl rfl) (pe_lst pa_nil))
        (pss_cons (ps_for PassesOwn.never rfl (iK_list (K := K) rfl (pv 1)) (pg_name (i := 4) sc__law_bit_rows.nd rfl (Or.inl rfl))
          (pss_one (ps_for PassesOwn.never rfl (pi_range1 rfl T.z_range (pa_cons pe_int pa_nil)) (pg_name (i := 5) sc__law_bit_rows.nd rfl (Or.inl rfl))
            (pss_one (ps_expr (pe_bm PySem.F.plainAttrs_list PySem.F.slot_list_append PySem.F.type_list_append mt_append (pv 3) (pa_cons (pe_op (oK_catA (K := K) rfl) (pv 4) (pe_tup (pa_cons (pv 5) pa_nil))) pa_nil)))))))
        (pss_one (ps_set (i := 1) sc__law_bit_rows.nd rfl (Or.inl rfl) (pe_callTy (T := "list") (cK_list (K := K) rfl) (by rfl) T.z_list (by decide +kernel) (pa_cons (pv 3) pa_nil)))))))
      (pss_one (ps_ret (pv 1))))), ?_⟩
    walk_at "st"
    refine ⟨sz (by simp), fun t0 ht0 => ⟨sz (by simp), fun p0 hp0 => ?_⟩⟩
    have k0 : Kp [] H (upd (upd H t0 (.tup [])) p0 (.lst [.ref t0])) := (Kp.new ht0).trans (Kp.new hp0)
    have hp0' : H p0 = none := (Kp.new (A := []) ht0).none List.not_mem_nil hp0
    refine seq_forK ⟨_, rfl, _, rfl, by omega, by omega, for_seq walk_range (fun i σ H' => ∃ (l : Addr) (xs : List V) (v2 v3 v4 v5 : Option V), σ = [some (.int (n : Int)), some (.ref l), v2, v3, v4, v5] ∧ Kp [] H H' ∧ H l = none ∧ H' l = some (.lst xs) ∧ FdAll K H' 1 xs ((bitR i).map rowD))
      ⟨p0, [.ref t0], none, none, none, none, rfl, k0, hp0', upd_same, .cons (.tup ((Kp.new (A := []) hp0).sqT (SqT.of upd_same)) .nil) .nil⟩ (fun _ _ _ _ _ => trivial) ?_ ?_⟩
    · rintro i v σ H1 H2 hi ⟨l, xs, v2, v3, v4, v5, rfl, k1, hl0, h1, a1⟩ ⟨rfl, rfl⟩
      have hi' : i < n := hi
      have sm := bitR_small (n := i) (by omega)
      refine gnK ?_
      walk_at "st"
      refine ⟨sz (by simp), fun D hD => ?_⟩
      have hD0 : H D = none := k1.none List.not_mem_nil hD
      have kD := Kp.new (A := []) (o := .lst []) hD
      refine seq_forK ⟨_, rfl, l, rfl, ⟨_, SqL.of (kD.get h1 (.inl List.not_mem_nil))⟩, for_seq walk_list (fun k σ H' => (∃ v4 v5 : Option V, σ = [some (.int (n : Int)), some (.ref l), some (.int (0 + (i : Int))), some (.ref D), v4, v5]) ∧ PvF [] K 1 H2 D ((((bitR i).take k).flatMap extR).map rowD) H') ⟨⟨_, _, rfl⟩, pvF_0 hD⟩ (fun k σ H' _ z => z.2.kp.sqL List.not_mem_nil (SqL.of h1)) ?_ ?_⟩
      · rintro k w σ H3 H4 hk ⟨⟨v4, v5, rfl⟩, pv⟩ ⟨rfl, hw⟩
        obtain ⟨r, hr, fr⟩ := a1.atm hw
        have hln : (((bitR i).take k).flatMap extR).length ≤ 128 := by rw [ext_len, List.length_take]; omega
        have lr := bitR_len (List.mem_of_getElem? hr)
        refine gnK ?_
        refine ⟨_, rfl, by decide, by decide, for_it walk_range (fun j σ H' => (∃ v5 : Option V, σ = [some (.int (n : Int)), some (.ref l), some (.int (0 + (i : Int))), some (.ref D), some w, v5]) ∧ PvF [] K 1 H2 D ((((bitR i).take k).flatMap extR ++ (extR r).take j).map rowD) H') ⟨⟨_, rfl⟩, pv.to (by simp)⟩ (fun _ _ _ _ _ => trivial) ?_ ?_⟩
        · rintro j w2 σ H5 H6 hj ⟨⟨v5, rfl⟩, pv5⟩ ⟨rfl, rfl⟩
          obtain ⟨a, ew, sa⟩ := rowD_inv (fr.kp pv5.kp)
          have hb : (extR r)[j]? = some (r ++ [0 + (j : Int)]) := by
            have hj' : j = 0 ∨ j = 1 := by have : j < 2 := hj; omega
            rcases hj' with e | e <;> subst e <;> rfl
          refine gnK ?_
          refine dropK' ?_
          obtain ⟨acc0, c0, _⟩ := pv5.ex
          refine ⟨_, rfl, .inl ⟨rfl, _, SqL.of c0⟩, _, rfl, _, rfl, sz (by simp), fun q hq => ?_⟩
          have kq : Kp [] H6 (upd H6 q (.tup [.int (0 + (j : Int))])) := Kp.new hq
          rw [ew]
          refine catA (kq.sqT sa) (SqT.of upd_same) (by simp [lr]; omega) fun u H7 ku0 su => ?_
          obtain ⟨acc, c1, c2, c3⟩ := pv5.step (kq.trans ku0) List.not_mem_nil hD (by rw [List.length_map, List.length_append]; have := List.length_take_le' j (extR r); have : (extR r).length = 2 := rfl; omega) (row_fd (r := r ++ [0 + (j : Int)]) (n := 0) (a := u) (by rw [List.map_append]; exact su))
          refine ⟨D, acc, _, rfl, rfl, c1, c2, ⟨_, rfl⟩, c3.to ?_⟩
          rw [← List.map_singleton (f := rowD), ← List.map_append, List.append_assoc, List.take_add_one, hb]; rfl
        · rintro σ H5 ⟨⟨v5, rfl⟩, pv5⟩
          refine ⟨⟨_, _, rfl⟩, pv5.to ?_⟩
          rw [tk_flat hr]; rfl
      · rintro σ H3 ⟨⟨v4, v5, rfl⟩, pv⟩
        obtain ⟨acc, c1, c2⟩ := pv.ex
        rw [a1.length, List.length_map, List.take_length] at c2
        walk_at "st"
        refine ⟨_, rfl, D, acc, rfl, .inl (SqL.of c1), fun p hp => ?_⟩
        have kp := Kp.new (A := []) (o := .lst acc) hp
        refine ⟨p, acc, _, _, _, _, rfl, k1.trans (pv.kp.trans kp), (k1.trans pv.kp).none List.not_mem_nil hp, upd_same, ?_⟩
        rw [bitR_succ]
        exact c2.kp kp
    · rintro σ H1 ⟨l, xs, v2, v3, v4, v5, rfl, k1, hl0, h1, a1⟩
      walk_at "st"
      exact ⟨_, rfl, q l xs _ k1 hl0 h1 a1⟩
def sp__law_clause (K : PySem.W.Frag) : Sp := fun vs H Q _ => ∃ (s a : Addr) (ns : List Str), vs = [.ref s, .ref a] ∧ Src H s ∧ SqL K H a (ns.map V.str) ∧ a ≠ s ∧ ns.length ≤ 6 ∧ ∀ v' (cl : List (Str × Int)) H', Kp [s] H H' → Src H' s → (cl.map (·.1)).Sublist ns → Fd K H' 2 v' (prsD cl) → Q v' H'
theorem ok__law_clause (T : Txt K mg A D) : FnOk P w K mg base CX0 2 (A 28) (D 28) ["_law_source_here", "_law_names"] (sp__law_clause K) := by
  refine T.F__law_clause.ok sc__law_clause (fun vs H Q E h => ?_) (fun cdv A' outer s H vs Q E hr h => ?_)
  · obtain ⟨s, a, ns, rfl, hs, ha, ne, hl, q⟩ := h
    rfl
  · obtain ⟨s, a, ns, rfl, hs, ha, ne, hl, q⟩ := h
    have hu := hu_of hr
    have G__law_draw : FnOk P w K mg base CX0 1 (A 22) (D 22) ["_law_source_here", "_law_limit"] (sp__law_draw K) := ok__law_draw T
    refine ⟨_, (pss_cons (ps_set (i := 2) sc__law_clause.nd rfl (Or.inl rfl) (pe_lst pa_nil))
      (pss_cons (ps_set (i := 3) sc__law_clause.nd rfl (Or.inl rfl) (pe_op op_add pe_int (pe_call G__law_draw (hr.mono (by decide)) rfl T.g__law_draw T.F__law_draw.kp T.b__law_draw .nil pass0 (pa_cons (pv 0) (pa_cons pe_int pa_nil)))))
      (pss_cons (ps_for PassesOwn.never rfl (iK_list (K := K) rfl (pv 1)) (pg_name (i := 4) sc__law_clause.nd rfl (Or.inl rfl))
        (pss_cons (ps_set (i := 5) sc__law_clause.nd rfl (Or.inl rfl) (pe_call G__law_draw (hr.mono (by decide)) rfl T.g__law_draw T.F__law_draw.kp T.b__law_draw .nil pass0 (pa_cons (pv 0) (pa_cons (pv 3) pa_nil))))
        (pss_one (ps_if (pt_cmpR op_lt (pv 5) pe_int (nomark _))
          (pss_one (ps_expr (pe_bm PySem.F.plainAttrs_list PySem.F.slot_list_append PySem.F.type_list_append mt_append (pv 2) (pa_cons (pe_tup (pa_cons (pv 4) (pa_cons (pv 5) pa_nil))) pa_nil))))
          pss_nil))))
      (pss_one (ps_ret (pe_callTy (T := "tuple") (cK_tuple (K := K) rfl) (by rfl) T.z_tuple (by decide +kernel) (pa_cons (pv 2) pa_nil))))))), ?_⟩
    walk_at "st"
    refine ⟨sz (by simp), fun p hp => ?_⟩
    have ps : p ≠ s := fun e => by subst e; obtain ⟨_, _, e⟩ := hs; rw [hp] at e; cases e
    have ps' : p ∉ [s] := by simpa using ps
    have k0 : Kp [s] H (upd H p (.lst [])) := Kp.new hp
    walk_at "st"
    refine ⟨_, rfl, s, 4, rfl, hs.kp (Kp.new (A := []) hp) List.not_mem_nil, by decide, by decide, fun sp H1 p0 p1 k1 s1 => ⟨_, _, rfl, rfl, ?_⟩⟩
    have h1 := k1.get (a := p) upd_same (.inl ps')
    have a1 : SqL K H1 a (ns.map V.str) := (k0.trans k1).sqL (by simpa using ne) ha
    refine seq_forK ⟨_, rfl, a, rfl, ⟨_, a1⟩, for_seq walk_list (fun i σ H' => (∃ v4 v5 : Option V, σ = [some (.ref s), some (.ref a), some (.ref p), some (.int (2 + sp)), v4, v5]) ∧ ∃ cl : List (Str × Int), PvF [s] K 1 H p (cl.map prD) H' ∧ (cl.map (·.1)).Sublist (ns.take i) ∧ Src H' s) ⟨⟨_, _, rfl⟩, [], ⟨⟨[], h1, .nil⟩, k0.trans k1⟩, List.nil_sublist _, s1⟩ (fun i σ H' _ z => by obtain ⟨_, _, k, _⟩ := z; exact k.kp.sqL (by simpa using ne) ha) ?_ ?_⟩
    · rintro i w σ H2 H3 hi ⟨⟨v4, v5, rfl⟩, cl, pv, sub, s2⟩ ⟨rfl, hw⟩
      rw [List.getElem?_map] at hw
      obtain ⟨z, hz, rfl⟩ := Option.map_eq_some_iff.mp hw
      have sub' : (cl.map (·.1)).Sublist (ns.take (i + 1)) := sub.trans (List.take_sublist_take_left (Nat.le_succ i))
      have cln : cl.length ≤ 6 := by have := sub.length_le; rw [List.length_map, List.length_take] at this; omega
      refine gnK ?_
      walk_at "st"
      refine ⟨_, rfl, _, rfl, s, _, rfl, s2, by omega, by omega, fun r H4 r0 r1 k4 s4 => ?_⟩
      refine if_anK ?_
      refine ⟨_, rfl, _, _, rfl, rfl, _, rfl, ?_⟩
      refine ite2 (fun c => ?_) (fun c => ?_)
      · refine dropK' ?_
        obtain ⟨acc0, c0, _⟩ := (pv.skip k4 ps').ex
        refine ⟨_, rfl, .inl ⟨rfl, _, SqL.of c0⟩, _, rfl, _, rfl, sz (by simp), fun u hu => ?_⟩
        have ku := Kp.new (A := [s]) (o := .tup [.str z, .int r]) hu
        obtain ⟨acc, c1, c2, c3⟩ := pv.step (k4.trans ku) ps' hp (by rw [List.length_map]; omega) (pr_fd (n := 0) (SqT.of upd_same))
        refine ⟨p, acc, _, rfl, rfl, c1, c2, ⟨_, _, rfl⟩, cl ++ [(z, r)], c3.to (by rw [List.map_append]; rfl), ?_, ?_⟩
        · rw [List.take_add_one, hz, List.map_append]; exact sub.append (List.Sublist.refl _)
        · exact (s4.kp (Kp.new (A := []) hu) List.not_mem_nil).kp (Kp.own (A := [p]) c1 rfl (by simp)) (by simpa using Ne.symm ps)
      · exact ⟨⟨_, _, rfl⟩, cl, pv.skip k4 ps', sub', s4⟩
    rintro σ H2 ⟨⟨v4, v5, rfl⟩, cl, pv, sub, s2⟩
    obtain ⟨acc, c1, c2⟩ := pv.ex
    walk_at "st"
    refine ⟨_, rfl, p, acc, rfl, .inl ⟨SqL.of c1, fun u hu => ?_⟩⟩
    have ku := Kp.new (A := [s]) (o := .tup acc) hu
    exact q _ cl _ (pv.kp.trans ku) (s2.kp (Kp.new (A := []) hu) List.not_mem_nil) (by rw [List.length_map, List.take_length] at sub; exact sub) (.tup (SqT.of upd_same) (c2.kp ku))
def sp__law_bits (K : PySem.W.Frag) : Sp := fun vs H Q _ => ∃ (s : Addr), vs = [.ref s, .int 5] ∧ Src H s ∧ ∀ v' (ns : List Str) (cls : List (List (Str × Int))) H', Kp [s] H H' → Src H' s → ns.length ≤ 10 → cls.length ≤ 8 → (∀ cl ∈ cls, gcl cl) → Fd K H' 4 v' (thD ns (cls.map prsD)) → Q v' H'
theorem ok__law_bits (T : Txt K mg A D) : FnOk P w K mg base CX0 3 (A 29) (D 29) ["_law_source_here", "_law_most"] (sp__law_bits K) := by
  refine T.F__law_bits.ok sc__law_bits (fun vs H Q E h => ?_) (fun cdv A' outer s H vs Q E hr h => ?_)
  · obtain ⟨s, rfl, hs, q⟩ := h
    rfl
  · obtain ⟨s, rfl, hs, q⟩ := h
    have hu := hu_of hr
    have G__law_some : FnOk P w K mg base CX0 2 (A 23) (D 23) ["_law_source_here", "_law_names", "_law_most"] (sp__law_some K) := ok__law_some T
    have G__law_draw : FnOk P w K mg base CX0 1 (A 22) (D 22) ["_law_source_here", "_law_limit"] (sp__law_draw K) := ok__law_draw T
    have G__law_clause : FnOk P w K mg base CX0 2 (A 28) (D 28) ["_law_source_here", "_law_names"] (sp__law_clause K) := ok__law_clause T
    refine ⟨_, (pss_cons (ps_set (i := 2) sc__law_bits.nd rfl (Or.inl rfl) (pe_lst (pa_cons pe_str (pa_cons pe_str (pa_cons pe_str (pa_cons pe_str (pa_cons pe_str (pa_cons pe_str (pa_cons pe_str pa_nil)))))))))
      (pss_cons (ps_set (i := 3) sc__law_bits.nd rfl (Or.inl rfl) (pe_call G__law_some (hr.mono (by decide)) rfl T.g__law_some T.F__law_some.kp T.b__law_some .nil pass0 (pa_cons (pv 0) (pa_cons (pe_slice sl_list (pv 2) (po_some (pe_call G__law_draw (hr.mono (by decide)) rfl T.g__law_draw T.F__law_draw.kp T.b__law_draw .nil pass0 (pa_cons (pv 0) (pa_cons pe_int pa_nil)))) po_none) (pa_cons (pe_call G__law_draw (hr.mono (by decide)) rfl T.g__law_draw T.F__law_draw.kp T.b__law_draw .nil pass0 (pa_cons (pv 0) (pa_cons (pe_op op_add (pv 1) pe_int) pa_nil))) pa_nil)))))
      (pss_cons (ps_set (i := 4) sc__law_bits.nd rfl (Or.inl rfl) (pe_lst pa_nil))
      (pss_cons (ps_for PassesOwn.never rfl (pi_range1 rfl T.z_range (pa_cons (pe_call G__law_draw (hr.mono (by decide)) rfl T.g__law_draw T.F__law_draw.kp T.b__law_draw .nil pass0 (pa_cons (pv 0) (pa_cons pe_int pa_nil))) pa_nil)) (pg_name (i := 5) sc__law_bits.nd rfl (Or.inl rfl))
        (pss_one (ps_expr (pe_bm PySem.F.plainAttrs_list PySem.F.slot_list_append PySem.F.type_list_append mt_append (pv 4) (pa_cons (pe_call G__law_clause (hr.mono (by decide)) rfl T.g__law_clause T.F__law_clause.kp T.b__law_clause .nil pass0 (pa_cons (pv 0) (pa_cons (pv 3) pa_nil))) pa_nil)))))
      (pss_one (ps_ret (pe_tup (pa_cons (pe_callTy (T := "tuple") (cK_tuple (K := K) rfl) (by rfl) T.z_tuple (by decide +kernel) (pa_cons (pv 3) pa_nil)) (pa_cons (pe_callTy (T := "tuple") (cK_tuple (K := K) rfl) (by rfl) T.z_tuple (by decide +kernel) (pa_cons (pv 4) pa_nil)) pa_nil))))))))), ?_⟩
    walk_at "st"
    refine ⟨sz (by simp), fun p0 hp0 => ?_⟩
    have ps0 := ne_src hs hp0
    have k0 : Kp [s] H (upd H p0 (.lst (poolB.map V.str))) := Kp.new hp0
    have s0 : Src (upd H p0 (.lst (poolB.map V.str))) s := hs.kp (Kp.new (A := []) hp0) List.not_mem_nil
    have h0 : (upd H p0 (.lst (poolB.map V.str))) p0 = some (.lst (poolB.map V.str)) := upd_same
    walk_at "st"
    refine ⟨_, rfl, _, rfl, _, rfl, s, 3, rfl, s0, by decide, by decide, fun d1 H1 d10 d11 k1 s1 => ⟨d1, rfl, p0, _, rfl, SqL.of (k1.get h0 (.inl (by simpa using ps0))), fun p1 hp1 => ?_⟩⟩
    obtain ⟨ms, em, sub0⟩ := cut_strs poolB (some d1) none
    have h1 : upd H1 p1 (.lst (cutV (poolB.map V.str) (some d1) none)) p1 = some (.lst (ms.map V.str)) := by rw [upd_same, em]
    have s1' : Src (upd H1 p1 (.lst (cutV (poolB.map V.str) (some d1) none))) s := s1.kp (Kp.new (A := []) hp1) List.not_mem_nil
    have k01 : Kp [s] H (upd H1 p1 (.lst (cutV (poolB.map V.str) (some d1) none))) := k0.trans (k1.trans (Kp.new hp1))
    have ps1 := ne_src s1 hp1
    generalize upd H1 p1 (.lst (cutV (poolB.map V.str) (some d1) none)) = H2 at h1 s1' k01
    refine ⟨_, rfl, _, rfl, _, _, rfl, rfl, s, 6, rfl, s1', by decide, by decide, fun d2 H3 d20 d21 k3 s3 => ?_⟩
    refine ⟨s, p1, ms, d2, rfl, s3, SqL.of (k3.get h1 (.inl (by simpa using ps1))), ps1, (by
        have := sub0.length_le
        have e8 : poolB.length ≤ 8 := by decide +kernel
        omega), by omega, by omega, fun p ys H4 hp k4 s4 h4 sub yl => ?_⟩
    have k04 : Kp [s] H H4 := k01.trans (k3.trans k4)
    have ps := ne_src s3 hp
    have subp := sub.trans sub0
    walk_at "st"
    refine ⟨sz (by simp), fun l hl => ?_⟩
    have ls := ne_src s4 hl
    have ls' : l ∉ [s] := by simpa using ls
    have kl : Kp [s] H4 (upd H4 l (.lst [])) := Kp.new hl
    refine seq_forK ⟨_, rfl, s, 7, rfl, s4.kp (Kp.new (A := []) hl) List.not_mem_nil, by decide, by decide, fun n H5 n0 n1 k5 s5 => ⟨n, rfl, by omega, by omega, for_seq walk_range (fun i σ H' => (∃ v4 : Option V, σ = [some (.ref s), some (.int 5), some (.ref p0), some (.ref p), some (.ref l), v4]) ∧ ∃ cs : List (List (Str × Int)), cs.length = i ∧ (∀ cl ∈ cs, gcl cl) ∧ PvF [s] K 2 H4 l (cs.map prsD) H' ∧ Src H' s) ⟨⟨_, rfl⟩, [], rfl, (fun _ h => nomatch h), ⟨⟨[], k5.get (a := l) upd_same (.inl ls'), .nil⟩, kl.trans k5⟩, s5⟩ (fun _ _ _ _ _ => trivial) ?_ ?_⟩⟩
    · rintro i w σ H6 H7 hi ⟨⟨v4, rfl⟩, cs, cl, gc, pv, s6⟩ ⟨rfl, rfl⟩
      have hi' : i < n.toNat := hi
      refine gnK ?_
      refine dropK' ?_
      obtain ⟨acc0, c0, _⟩ := pv.ex
      refine ⟨_, rfl, .inl ⟨rfl, _, SqL.of c0⟩, _, rfl, _, rfl, s, p, ys, rfl, s6, SqL.of (pv.kp.get h4 (.inl (by simpa using ps))), ps, by omega, fun v' c H8 k8 s8 sc f8 => ?_⟩
      have gc' : gcl c := ⟨(poolB_nd.sublist subp).sublist sc, by have := sc.length_le; rw [List.length_map] at this; omega⟩
      obtain ⟨acc, c1, c2, c3⟩ := pv.step k8 ls' hl (by rw [List.length_map]; omega) f8
      exact ⟨l, acc, _, rfl, rfl, c1, c2, ⟨_, rfl⟩, cs ++ [c], by simp [cl], fun x hx => (List.mem_append.mp hx).elim (gc x) fun h => by rw [List.mem_singleton.mp h]; exact gc', c3.to (by rw [List.map_append]; rfl), s8.kp (Kp.own (A := [l]) c1 rfl (by simp)) (by simpa using Ne.symm ls)⟩
    rintro σ H6 ⟨⟨v4, rfl⟩, cs, cl, gc, pv, s6⟩
    obtain ⟨acc, c1, c2⟩ := pv.ex
    walk_at "st"
    refine ⟨_, rfl, p, _, rfl, .inl ⟨SqL.of (pv.kp.get h4 (.inl (by simpa using ps))), fun u hu => ?_⟩⟩
    have ku := Kp.new (A := []) (o := .tup (ys.map V.str)) hu
    refine ⟨_, rfl, l, acc, rfl, .inl ⟨SqL.of (ku.get c1 (.inl List.not_mem_nil)), fun u2 hu2 => ⟨sz (by simp), fun z hz => ?_⟩⟩⟩
    have ku2 := Kp.new (A := []) (o := .tup acc) hu2
    have kz := Kp.new (A := []) (o := .tup [.ref u, .ref u2]) hz
    have kk := ku.trans (ku2.trans kz)
    exact q _ ys cs _ (k04.trans (pv.kp.trans kk.nil)) (s6.kp kk List.not_mem_nil) (by omega) (by omega) gc (thD_mk (SqT.of upd_same) ((ku2.trans kz).sqT (SqT.of upd_same)) (kz.sqT (SqT.of upd_same)) (c2.kp kk))
def sp__law_whole_numbers (K : PySem.W.Frag) (n : Nat) : Sp := fun vs H Q _ => ∃ (m : Nat) (v : V) (d : PyData), vs = [v] ∧ Fd K H m v d ∧ m < n ∧ ∀ H', Kp [] H H' → Q (.bl true) H'
theorem sp__law_whole_numbers_zero {K : PySem.W.Frag} {vs : List V} {H : Hp} {Q : VK} {E : XK} (h : sp__law_whole_numbers K 0 vs H Q E) : False := by
  obtain ⟨_, _, _, _, _, h, _⟩ := h
  exact absurd h (Nat.not_lt_zero _)
theorem ok__law_whole_numbers (T : Txt K mg A D) : ∀ n, FnOk P w K mg base CX0 (n + 1) (A 30) (D 30) ["_law_value"] (sp__law_whole_numbers K n)
  | 0 => ⟨fun vs H Q E h => (sp__law_whole_numbers_zero h).elim, fun A' outer s H args us vs Q E hr e0 hb r h => (sp__law_whole_numbers_zero h).elim⟩
  | n + 1 => by
    have G__law_whole_numbers : FnOk P w K mg base CX0 (n + 1) (A 30) (D 30) ["_law_value"] (sp__law_whole_numbers K n) := ok__law_whole_numbers T n
    refine T.F__law_whole_numbers.ok sc__law_whole_numbers (fun vs H Q E h => ?_) (fun cdv A' outer s H vs Q E hr h => ?_)
    · obtain ⟨m, v, d, rfl, hv, hm, q⟩ := h
      rfl
    · obtain ⟨m, v, d, rfl, hv, hm, q⟩ := h
      have hu := hu_of hr
      refine ⟨_, (pss_cons (ps_if (pt_val (pe_callB (id := "isinstance") (cK_isi (K := K) rfl) (by rfl) T.z_isinstance (by decide +kernel) (pa_cons (pv 0) (pa_cons (pe_bltn (v := .ty "tuple") (u := .type "tuple") (by rfl) T.z_tuple (by decide +kernel) rfl) pa_nil))))
          (pss_one (ps_ret (pe_cmpR op_eq (pe_callB (id := "len") (cK_len (K := K) rfl) (by rfl) T.z_len (by decide +kernel) (pa_cons (pe_lc (own := [("_law_item", 1)]) (g := gName 1)  rfl sc__law_whole_numbers.nd (iK_tup (K := K) rfl (pv 0)) (blkOk_by (N := N__law_whole_numbers) (sc := defScope (topS 30)) (by decide +kernel)) (fun _ _ _ _ _ => (pg_name (i := 1) sc__law_whole_numbers.nd rfl (Or.inl rfl))) (fun _ _ _ _ _ => (pts_one (pt_not (pt_val (pe_call G__law_whole_numbers (hr.mono (by omega)) rfl T.g__law_whole_numbers T.F__law_whole_numbers.kp T.b__law_whole_numbers .nil pass0 (pa_cons (pv 1) pa_nil)))))) (fun _ _ _ _ _ => (pv 1))) pa_nil)) pe_int (nomark _))))
          pss_nil)
        (pss_one (ps_ret (pe_or (pe_callB (id := "isinstance") (cK_isi (K := K) rfl) (by rfl) T.z_isinstance (by decide +kernel) (pa_cons (pv 0) (pa_cons (pe_bltn (v := .ty "str") (u := .type "str") (by rfl) T.z_str (by decide +kernel) rfl) pa_nil))) (pe_one (pe_and (pe_callB (id := "isinstance") (cK_isi (K := K) rfl) (by rfl) T.z_isinstance (by decide +kernel) (pa_cons (pv 0) (pa_cons (pe_bltn (v := .ty "int") (u := .type "int") (by rfl) T.z_int (by decide +kernel) rfl) pa_nil))) (pe_one (pe_not (pe_callB (id := "isinstance") (cK_isi (K := K) rfl) (by rfl) T.z_isinstance (by decide +kernel) (pa_cons (pv 0) (pa_cons (pe_bltn (v := .ty "bool") (u := .type "bool") (by rfl) T.z_bool (by decide +kernel) rfl) pa_nil))))))))))), ?_⟩
      cases hv with
      | int i =>
        refine seq_ifK0 ⟨_, rfl, _, _, _, _, false, rfl, .ty _, .base (.int i), kit_ty (by decide +kernel), _, rfl, ?_⟩
        refine iteF ?_
        refine retK ?_
        refine ⟨_, rfl, _, _, _, _, false, rfl, .ty _, .base (.int i), kit_ty (by decide +kernel), _, rfl, iteF ?_⟩
        refine ⟨_, rfl, _, _, _, _, true, rfl, .ty _, .base (.int i), kit_ty (by decide +kernel), _, rfl, iteT ?_⟩
        exact ⟨_, rfl, _, _, _, _, false, rfl, .ty _, .base (.int i), kit_ty (by decide +kernel), _, rfl, q _ Kp.refl⟩
      | str z =>
        refine seq_ifK0 ⟨_, rfl, _, _, _, _, false, rfl, .ty _, .base (.str z), kit_ty (by decide +kernel), _, rfl, ?_⟩
        refine iteF ?_
        exact retK ⟨_, rfl, _, _, _, _, true, rfl, .ty _, .base (.str z), kit_ty (by decide +kernel), _, rfl, iteT (q _ Kp.refl)⟩
      | @tup m a xs ds hs ha =>
        refine seq_ifK0 ⟨_, rfl, _, _, _, _, true, rfl, .ty _, tyx_tup hs, kit_ty (by decide +kernel), _, rfl, ?_⟩
        refine iteT ?_
        refine retK ?_
        refine ⟨_, rfl, a, rfl, ⟨_, hs⟩, fun D hD => lc_it walk_tup (fun i H' => PvF [] K 0 H D [] H') (pvF_0 hD) (fun i H' _ z => z.kp.sqT hs) ?_ ?_⟩
        · rintro i w H1 H2 hi pv ⟨rfl, hw⟩
          obtain ⟨e, he, fe⟩ := ha.at hw
          refine gnK ⟨rfl, ?_⟩
          refine ⟨_, rfl, m, w, e, rfl, fe.kp pv.kp, by omega, fun H3 k3 => ?_⟩
          exact ⟨_, rfl, pv.skip k3 List.not_mem_nil⟩
        · rintro H1 pv
          obtain ⟨acc, c1, c2⟩ := pv.ex
          cases c2
          refine ⟨_, 0, rfl, .inl ⟨[], SqL.of c1, rfl⟩, rfl, ?_⟩
          exact asB (q _ pv.kp) rfl
def sp__law_same (K : PySem.W.Frag) : Sp := fun vs H Q _ => ∃ (v v' : V) (d : PyData), vs = [v, v'] ∧ Fd K H 6 v d ∧ Fd K H 6 v' d ∧ ∀ H', Kp [] H H' → Q (.bl true) H'
theorem ok__law_same (T : Txt K mg A D) : FnOk P w K mg base CX0 9 (A 31) (D 31) ["_law_actual", "_law_expected"] (sp__law_same K) := by
  refine T.F__law_same.ok sc__law_same (fun vs H Q E h => ?_) (fun cdv A' outer s H vs Q E hr h => ?_)
  · obtain ⟨v, v', d, rfl, hv, hv', q⟩ := h
    rfl
  · obtain ⟨v, v', d, rfl, hv, hv', q⟩ := h
    have hu := hu_of hr
    have G__law_whole_numbers : FnOk P w K mg base CX0 8 (A 30) (D 30) ["_law_value"] (sp__law_whole_numbers K 7) := ok__law_whole_numbers T 7
    refine ⟨_, (pss_one (ps_ret (pe_and (pe_cmpR (oP_eq (K := K) rfl hr.units) (pv 0) (pv 1) (nomark _)) (pe_one (pe_call G__law_whole_numbers (hr.mono (by decide)) rfl T.g__law_whole_numbers T.F__law_whole_numbers.kp T.b__law_whole_numbers .nil pass0 (pa_cons (pv 0) pa_nil)))))), ?_⟩
    refine retK ⟨_, rfl, _, rfl, d, d, hv.dp, hv'.dp, hv.pln (by decide), hv.pln (by decide), ?_⟩
    exact ⟨_, congrArg V.bl (eqv_same hv.plain), iteT ⟨_, rfl, 6, v, d, rfl, hv, by decide, fun H' k => q H' k⟩⟩
def spW__law_whole_numbers (K : PySem.W.Frag) : Sp := fun vs H Q _ => ∃ i : Int, vs = [.int i] ∧ Q (.bl true) H
theorem okW__law_whole_numbers (T : Txt K mg A D) : FnW P w K mg base 1 (A 30) (D 30) ["_law_value"] (spW__law_whole_numbers K) := by
  refine okW T.F__law_whole_numbers sc__law_whole_numbers (fun vs H Q E h => ?_) (fun cdv A' outer s H vs Q E hr h => ?_)
  · obtain ⟨i, rfl, q⟩ := h
    rfl
  · obtain ⟨i, rfl, q⟩ := h
    refine ⟨_, (pss_cons (ps_if (pt_val (pe_callB (id := "isinstance") (cK_isi (K := K) rfl) (by rfl) T.z_isinstance (by decide +kernel) (pa_cons (pv 0) (pa_cons (pe_bltn (v := .ty "tuple") (u := .type "tuple") (by rfl) T.z_tuple (by decide +kernel) rfl) pa_nil))))
        pss_never pss_nil)
      (pss_one (ps_ret (pe_or (pe_callB (id := "isinstance") (cK_isi (K := K) rfl) (by rfl) T.z_isinstance (by decide +kernel) (pa_cons (pv 0) (pa_cons (pe_bltn (v := .ty "str") (u := .type "str") (by rfl) T.z_str (by decide +kernel) rfl) pa_nil))) (pe_one (pe_and (pe_callB (id := "isinstance") (cK_isi (K := K) rfl) (by rfl) T.z_isinstance (by decide +kernel) (pa_cons (pv 0) (pa_cons (pe_bltn (v := .ty "int") (u := .type "int") (by rfl) T.z_int (by decide +kernel) rfl) pa_nil))) (pe_one (pe_not (pe_callB (id := "isinstance") (cK_isi (K := K) rfl) (by rfl) T.z_isinstance (by decide +kernel) (pa_cons (pv 0) (pa_cons (pe_bltn (v := .ty "bool") (u := .type "bool") (by rfl) T.z_bool (by decide +kernel) rfl) pa_nil))))))))))), ?_⟩
    refine seq_ifK0 ⟨_, rfl, _, _, _, _, false, rfl, .ty _, .base (.int i), kit_ty (by decide +kernel), _, rfl, ?_⟩
    refine iteF ?_
    refine retK ?_
    refine ⟨_, rfl, _, _, _, _, false, rfl, .ty _, .base (.int i), kit_ty (by decide +kernel), _, rfl, iteF ?_⟩
    refine ⟨_, rfl, _, _, _, _, true, rfl, .ty _, .base (.int i), kit_ty (by decide +kernel), _, rfl, iteT ?_⟩
    exact ⟨_, rfl, _, _, _, _, false, rfl, .ty _, .base (.int i), kit_ty (by decide +kernel), _, rfl, q⟩
def spW__law_same (K : PySem.W.Frag) : Sp := fun vs H Q _ => ∃ i : Int, vs = [.int i, .int i] ∧ Q (.bl true) H
theorem okW__law_same (T : Txt K mg A D) : FnW P w K mg base 2 (A 31) (D 31) ["_law_actual", "_law_expected"] (spW__law_same K) := by
  refine okW T.F__law_same sc__law_same (fun vs H Q E h => ?_) (fun cdv A' outer s H vs Q E hr h => ?_)
  · obtain ⟨i, rfl, q⟩ := h
    rfl
  · obtain ⟨i, rfl, q⟩ := h
    have GW : FnW P w K mg base 1 (A 30) (D 30) ["_law_value"] (spW__law_whole_numbers K) := okW__law_whole_numbers T
    refine ⟨_, (pss_one (ps_ret (pe_and (pe_cmpR op_eq (pv 0) (pv 1) (nomark _)) (pe_one (pe_callW GW hr rfl T.g__law_whole_numbers T.F__law_whole_numbers.kp T.b__law_whole_numbers (pa_cons (pv 0) pa_nil)))))), ?_⟩
    refine retK ⟨_, rfl, _, rfl, rfl, ?_⟩
    exact ⟨_, congrArg V.bl (decide_eq_true rfl), iteT ⟨_, rfl, i, rfl, q⟩⟩
def sp__law_kept (K : PySem.W.Frag) : Sp := fun vs H Q _ => ∃ (v v' : V) (cl : List (Str × Int)) (r : List Int), vs = [v, v'] ∧ Fd K H 2 v (prsD cl) ∧ Fd K H 1 v' (rowD r) ∧ r.length = cl.length ∧ cl.length ≤ 6 ∧ ∀ H', Kp [] H H' → Q (.bl (keptB cl r)) H'
theorem ok__law_kept (T : Txt K mg A D) : FnOk P w K mg base CX0 1 (A 32) (D 32) ["_law_clause_here", "_law_row"] (sp__law_kept K) := by
  refine T.F__law_kept.ok sc__law_kept (fun vs H Q E h => ?_) (fun cdv A' outer s H vs Q E hr h => ?_)
  · obtain ⟨v, v', cl, r, rfl, hv, hv', hl, hn, q⟩ := h
    rfl
  · obtain ⟨v, v', cl, r, rfl, hv, hv', hl, hn, q⟩ := h
    have hu := hu_of hr
    refine ⟨_, (pss_one (ps_ret (pe_cmpR op_gt (pe_callB (id := "len") (cK_len (K := K) rfl) (by rfl) T.z_len (by decide +kernel) (pa_cons (pe_lc (own := [("_law_k", 2)]) (g := gName 2)  rfl sc__law_kept.nd (pi_range1 rfl T.z_range (pa_cons (pe_callB (id := "len") (cK_len (K := K) rfl) (by rfl) T.z_len (by decide +kernel) (pa_cons (pv 0) pa_nil)) pa_nil)) (blkOk_by (N := N__law_kept) (sc := defScope (topS 32)) (by decide +kernel)) (fun _ _ _ _ _ => (pg_name (i := 2) sc__law_kept.nd rfl (Or.inl rfl))) (fun _ _ _ _ _ => (pts_one (pt_cmpR op_eq (pe_ix (xK_tup (K := K) rfl) (pe_ix (xK_tup (K := K) rfl) (pv 0) (pv 2) (fun _ _ => rfl)) pe_int (fun _ _ => rfl)) (pe_ix (xK_tup (K := K) rfl) (pv 1) (pv 2) (fun _ _ => rfl)) (nomark _)))) (fun _ _ _ _ _ => (pv 2))) pa_nil)) pe_int (nomark _)))), ?_⟩
    obtain ⟨a, cvs, rfl, ha, hc⟩ := hv.tup_inv
    obtain ⟨b, rfl, hb⟩ := rowD_inv hv'
    have hcl : cvs.length = cl.length := by rw [hc.length, List.length_map]
    refine retK ?_
    refine ⟨_, rfl, _, cl.length, rfl, .inr ⟨_, ha, hcl.symm⟩, _, rfl, by omega, by omega, fun D hD => lc_it walk_range (fun i H' => (∃ acc, H' D = some (.lst acc) ∧ acc.length ≤ i ∧ (decide (0 < acc.length) = keptB (cl.take i) (r.take i))) ∧ Kp [] H H') ⟨⟨[], upd_same, Nat.le_refl _, rfl⟩, Kp.new hD⟩ (fun _ _ _ _ => trivial) ?_ ?_⟩
    · rintro i w H1 H2 hi ⟨⟨acc, h1, l1, hk⟩, k1⟩ ⟨rfl, rfl⟩
      have hi' : i < cl.length := hi
      obtain ⟨p, hp⟩ : ∃ p, cl[i]? = some p := ⟨_, List.getElem?_eq_getElem hi'⟩
      obtain ⟨z, hz⟩ : ∃ z, r[i]? = some z := ⟨_, List.getElem?_eq_getElem (by omega)⟩
      obtain ⟨pv, hpv, fp⟩ := hc.atm' hp
      obtain ⟨c, rfl, sc⟩ := prD_inv fp
      have st : keptB (cl.take (i + 1)) (r.take (i + 1)) = (keptB (cl.take i) (r.take i) || decide (p.2 = z)) := by
        unfold keptB
        rw [List.take_add_one, List.take_add_one, hp, hz, Option.toList_some, Option.toList_some, List.zip_append (by rw [List.length_take, List.length_take]; omega), List.any_append]
        by_cases e : p.2 = z <;> simp [e]
      refine gnK ⟨rfl, ?_⟩
      refine ⟨_, rfl, _, rfl, a, _, _, _, rfl, rfl, k1.sqT ha, atI_nat' hpv (by simp), c, _, 1, _, rfl, rfl, k1.sqT sc, rfl, _, rfl, _, rfl, b, _, _, _, rfl, rfl, k1.sqT hb, atI_nat' (v := .int z) (by rw [List.getElem?_map, hz]; rfl) (by simp), rfl, _, rfl, ?_⟩
      refine ite2 (fun e => ?_) (fun e => ?_)
      · have e' : p.2 = z := by simpa using e
        refine ⟨_, rfl, acc, h1, szl (by omega), ⟨_, upd_same, by simp; omega, ?_⟩, ?_⟩
        · rw [st, decide_eq_true e', Bool.or_true]; simp
        · exact k1.put hD
      · have e' : p.2 ≠ z := by simpa using e
        refine ⟨⟨acc, h1, by omega, ?_⟩, k1⟩
        rw [st, decide_eq_false e', Bool.or_false]; exact hk
    · rintro H1 ⟨⟨acc, h1, l1, hk⟩, k1⟩
      have e1 : ((cl.length : Nat) : Int).toNat = cl.length := rfl
      rw [e1, List.take_length, ← hl, List.take_length] at hk
      refine ⟨_, acc.length, rfl, .inl ⟨acc, SqL.of h1, rfl⟩, _, _, rfl, rfl, ?_⟩
      refine asB (q _ k1) ?_
      rw [← hk]
      simp
def sp__law_tables (K : PySem.W.Frag) : Sp := fun vs H Q _ => ∃ (v : V) (ns : List Str) (cls : List (List (Str × Int))), vs = [v] ∧ Fd K H 4 v (thD ns (cls.map prsD)) ∧ ns.length ≤ 10 ∧ cls.length ≤ 10 ∧ (∀ cl ∈ cls, gcl cl) ∧ ∀ v' H', Kp [] H H' → Fd K H' 5 v' (thD ns (ns.map unitD ++ cls.map tblD)) → Q v' H'
theorem ok__law_tables (T : Txt K mg A D) : FnOk P w K mg base CX0 2 (A 33) (D 33) ["_law_theory_here"] (sp__law_tables K) := by
  refine T.F__law_tables.ok sc__law_tables (fun vs H Q E h => ?_) (fun cdv A' outer s H vs Q E hr h => ?_)
  · obtain ⟨v, ns, cls, rfl, hv, hn, hc, hg, q⟩ := h
    rfl
  · obtain ⟨v, ns, cls, rfl, hv, hn, hc, hg, q⟩ := h
    have hu := hu_of hr
    have G__law_kept : FnOk P w K mg base CX0 1 (A 32) (D 32) ["_law_clause_here", "_law_row"] (sp__law_kept K) := ok__law_kept T
    have G__law_bit_rows : FnOk P w K mg base CX0 1 (A 27) (D 27) ["_law_count"] (sp__law_bit_rows K) := ok__law_bit_rows T
    refine ⟨_, (pss_cons (ps_setLc (i := 1) (own := [("_law_name", 4)]) (g := gName 4) (tt := tYes) rfl sc__law_tables.nd rfl rfl (sw_true rfl rfl rfl (by decide +kernel))  (iK_tup (K := K) rfl (pe_ix (xK_tup (K := K) rfl) (pv 0) pe_int (fun _ _ => rfl))) (blkOk_by (N := N__law_tables) (sc := defScope (topS 33)) (by decide +kernel)) (fun _ _ _ _ _ => (pg_name (i := 4) sc__law_tables.nd rfl (Or.inl rfl))) (fun _ _ _ _ _ => pts_nil) (fun _ _ _ _ _ => (pe_tup (pa_cons (pe_tup (pa_cons (pv 4) pa_nil)) (pa_cons (pe_tup (pa_cons (pe_tup (pa_cons pe_int pa_nil)) (pa_cons (pe_tup (pa_cons pe_int pa_nil)) pa_nil))) pa_nil)))))
      (pss_cons (ps_for PassesOwn.never rfl (iK_tup (K := K) rfl (pe_ix (xK_tup (K := K) rfl) (pv 0) pe_int (fun _ _ => rfl))) (pg_name (i := 2) sc__law_tables.nd rfl (Or.inr rfl))
        (pss_cons (ps_setLc (i := 3) (own := [("_law_row", 5)]) (g := gName 5)  rfl sc__law_tables.nd rfl rfl (sw_true rfl rfl rfl (by decide +kernel))  (iK_list (K := K) rfl (pe_call G__law_bit_rows (hr.mono (by decide)) rfl T.g__law_bit_rows T.F__law_bit_rows.kp T.b__law_bit_rows .nil pass0 (pa_cons (pe_callB (id := "len") (cK_len (K := K) rfl) (by rfl) T.z_len (by decide +kernel) (pa_cons (pv 2) pa_nil)) pa_nil))) (blkOk_by (N := N__law_tables) (sc := defScope (topS 33)) (by decide +kernel)) (fun _ _ _ _ _ => (pg_name (i := 5) sc__law_tables.nd rfl (Or.inl rfl))) (fun _ _ _ _ _ => (pts_one (pt_val (pe_call G__law_kept (hr.mono (by decide)) rfl T.g__law_kept T.F__law_kept.kp T.b__law_kept .nil pass0 (pa_cons (pv 2) (pa_cons (pv 5) pa_nil)))))) (fun _ _ _ _ _ => (pv 5)))
        (pss_one (ps_expr (pe_bm PySem.F.plainAttrs_list PySem.F.slot_list_append PySem.F.type_list_append mt_append (pv 1) (pa_cons (pe_tup (pa_cons (pe_callTy (T := "tuple") (cK_tuple (K := K) rfl) (by rfl) T.z_tuple (by decide +kernel) (pa_cons (pe_lc (own := [("_law_literal", 6)]) (g := gName 6) (tt := tYes) rfl sc__law_tables.nd (iK_tup (K := K) rfl (pv 2)) (blkOk_by (N := N__law_tables) (sc := defScope (topS 33)) (by decide +kernel)) (fun _ _ _ _ _ => (pg_name (i := 6) sc__law_tables.nd rfl (Or.inl rfl))) (fun _ _ _ _ _ => pts_nil) (fun _ _ _ _ _ => (pe_ix (xK_tup (K := K) rfl) (pv 6) pe_int (fun _ _ => rfl)))) pa_nil)) (pa_cons (pe_callTy (T := "tuple") (cK_tuple (K := K) rfl) (by rfl) T.z_tuple (by decide +kernel) (pa_cons (pv 3) pa_nil)) pa_nil))) pa_nil))))))
      (pss_one (ps_ret (pe_tup (pa_cons (pe_ix (xK_tup (K := K) rfl) (pv 0) pe_int (fun _ _ => rfl)) (pa_cons (pe_callTy (T := "tuple") (cK_tuple (K := K) rfl) (by rfl) T.z_tuple (by decide +kernel) (pa_cons (pv 1) pa_nil)) pa_nil))))))), ?_⟩
    obtain ⟨t, x, y, cvs, rfl, h0, hx, hy, hcs⟩ := thD_inv (n := 2) hv
    have hcl : cvs.length = cls.length := by rw [hcs.length, List.length_map]
    walk_at "st"
    refine ⟨_, rfl, t, _, 0, _, rfl, rfl, h0, rfl, x, rfl, ⟨_, hx⟩, fun D1 hD1 => lc_it walk_tup (fun i H' => PvF [] K 3 H D1 ((ns.take i).map unitD) H') (pvF_0 hD1) (fun i H' _ z => z.kp.sqT hx) ?_ ?_⟩
    · rintro i w H1 H2 hi pv ⟨rfl, hw⟩
      rw [List.getElem?_map] at hw
      obtain ⟨s, hs, rfl⟩ := Option.map_eq_some_iff.mp hw
      refine gnK ⟨rfl, ?_⟩
      refine yesK ?_
      refine iteT ?_
      refine ⟨_, rfl, sz (by simp), fun a1 h1 => ⟨sz (by simp), fun a2 h2 => ⟨sz (by simp), fun a3 h3 => ⟨sz (by simp), fun a4 h4 => ⟨sz (by simp), fun a5 h5 => ?_⟩⟩⟩⟩⟩
      obtain ⟨ku, fu⟩ := unit_fd (K := K) h1 h2 h3 h4 h5
      obtain ⟨acc, c1, c2, c3⟩ := pv.step ku List.not_mem_nil hD1 (by have := tk_len (g := unitD) (xs := ns) i; omega) fu
      exact ⟨acc, c1, c2, c3.to (tk_map hs).symm⟩
    rintro H1 pv0
    rw [List.length_map, List.take_length] at pv0
    refine seq_forK ⟨_, rfl, t, _, 1, _, rfl, rfl, pv0.kp.sqT h0, rfl, y, rfl, ⟨_, pv0.kp.sqT hy⟩, for_seq walk_tup (fun i σ H' => (∃ v2 v3 v4 v5 v6 : Option V, σ = [some (.ref t), some (.ref D1), v2, v3, v4, v5, v6]) ∧ PvF [] K 3 H D1 (ns.map unitD ++ (cls.take i).map tblD) H') ⟨⟨_, _, _, _, _, rfl⟩, pv0.to (by simp)⟩ (fun i σ H' _ z => z.2.kp.sqT hy) ?_ ?_⟩
    · rintro i w σ H2 H3 hi ⟨⟨v2, v3, v4, v5, v6, rfl⟩, pv⟩ ⟨rfl, hw⟩
      obtain ⟨cl, hcl', fc0⟩ := hcs.atm hw
      have cm := hg cl (List.mem_of_getElem? hcl')
      have fc := fc0.kp pv.kp
      obtain ⟨a, avs, rfl, ha, hc'⟩ := fc.tup_inv
      have hal : avs.length = cl.length := by rw [hc'.length, List.length_map]
      have sm := bitR_small (n := cl.length) cm.2
      refine gnK ?_
      walk_at "st"
      refine ⟨_, rfl, _, cl.length, rfl, .inr ⟨_, ha, hal.symm⟩, cl.length, rfl, cm.2, fun l rvs H4 k4 hl0 h4 a4 => ?_⟩
      refine ⟨l, rfl, ⟨_, SqL.of h4⟩, fun D2 hD2 => lc_it walk_list (fun j H' => PvF [] K 1 H4 D2 ((((bitR cl.length).take j).filter (keptB cl)).map rowD) H') (pvF_0 hD2) (fun j H' _ z => z.kp.sqL List.not_mem_nil (SqL.of h4)) ?_ ?_⟩
      · rintro j w2 H5 H6 hj pv2 ⟨rfl, hw2⟩
        obtain ⟨r, hr, fr⟩ := a4.atm hw2
        have lr := bitR_len (List.mem_of_getElem? hr)
        refine gnK ⟨rfl, ?_⟩
        refine ⟨_, rfl, _, rfl, _, _, cl, r, rfl, fc.kp (k4.trans pv2.kp), fr.kp pv2.kp, lr, cm.2, fun H7 k7 => ⟨_, rfl, ?_⟩⟩
        refine ite2 (fun c => ?_) (fun c => ?_)
        · obtain ⟨acc, c1, c2, c3⟩ := pv2.step k7 List.not_mem_nil hD2 (by have := tk_filLen (p := keptB cl) (g := rowD) (xs := bitR cl.length) j; omega) ((fr.kp pv2.kp).kp k7)
          exact ⟨_, rfl, acc, c1, c2, c3.to (tk_filT hr c).symm⟩
        · exact (pv2.skip k7 List.not_mem_nil).to (tk_filF hr (by simpa using c)).symm
      rintro H5 pv2
      obtain ⟨racc, r1, r2⟩ := pv2.ex
      rw [a4.length, List.length_map, List.take_length] at r2
      have k35 := k4.trans pv2.kp
      have ha5 := k35.sqT ha
      walk_at "st"
      obtain ⟨acc0, c0, _⟩ := (pv.skip k35 List.not_mem_nil).ex
      refine ⟨_, rfl, .inl ⟨rfl, _, SqL.of c0⟩, _, rfl, a, rfl, ⟨_, ha5⟩, fun D3 hD3 => lc_it walk_tup (fun j H' => H' D3 = some (.lst (((cl.take j).map (·.1)).map V.str)) ∧ Kp [] H5 H') ⟨upd_same, Kp.new hD3⟩ (fun j H' _ z => z.2.sqT ha5) ?_ ?_⟩
      · rintro j w2 H6 H7 hj ⟨h6, k6⟩ ⟨rfl, hw2⟩
        obtain ⟨p, hp, fp⟩ := hc'.atm hw2
        obtain ⟨b, rfl, sb⟩ := prD_inv (fp.kp (k35.trans k6))
        refine gnK ⟨rfl, ?_⟩
        refine yesK ?_
        refine iteT ?_
        refine ⟨_, rfl, b, _, 0, _, rfl, rfl, sb, rfl, _, h6, szl (by have := tk_len (g := fun p : Str × Int => p.1) (xs := cl) j; rw [List.length_map]; have := cm.2; omega), ?_, k6.put hD3⟩
        rw [tk_map hp, List.map_append]; exact upd_same
      rintro H6 ⟨h6, k6⟩
      rw [hal, List.take_length] at h6
      refine ⟨D3, _, rfl, .inl ⟨SqL.of h6, fun u hu => ?_⟩⟩
      have ku := Kp.new (A := []) (o := .tup ((cl.map (·.1)).map V.str)) hu
      have r6 := (k6.trans ku).get r1 (.inl List.not_mem_nil)
      refine ⟨_, rfl, D2, racc, rfl, .inl ⟨SqL.of r6, fun u2 hu2 => ⟨sz (by simp), fun u3 hu3 => ?_⟩⟩⟩
      have ku2 := Kp.new (A := []) (o := .tup racc) hu2
      have ku3 := Kp.new (A := []) (o := .tup [.ref u, .ref u2]) hu3
      have k58 := k6.trans (ku.trans (ku2.trans ku3))
      obtain ⟨acc, c1, c2, c3⟩ := pv.step (k35.trans k58) List.not_mem_nil hD1 (by have := tk_len (g := tblD) (xs := cls) i; rw [List.length_append, List.length_map]; omega)
        (d := tblD cl) (.tup (SqT.of upd_same) (.cons (nm_fd ((ku2.trans ku3).sqT (SqT.of upd_same))) (.cons (.tup (ku3.sqT (SqT.of upd_same)) (r2.kp k58)) .nil)))
      refine ⟨D1, acc, _, rfl, rfl, c1, c2, ⟨_, _, _, _, _, rfl⟩, c3.to ?_⟩
      rw [tk_map hcl', List.append_assoc]
    rintro σ H2 ⟨⟨v2, v3, v4, v5, v6, rfl⟩, pv⟩
    obtain ⟨acc, c1, c2⟩ := pv.ex
    rw [hcl, List.take_length] at c2
    walk_at "st"
    refine ⟨_, rfl, t, _, 0, _, rfl, rfl, pv.kp.sqT h0, rfl, _, rfl, D1, acc, rfl, .inl ⟨SqL.of c1, fun u hu => ⟨sz (by simp), fun z hz => ?_⟩⟩⟩
    have ku := Kp.new (A := []) (o := .tup acc) hu
    have kz := Kp.new (A := []) (o := .tup [.ref x, .ref u]) hz
    have kk := pv.kp.trans (ku.trans kz)
    exact q _ _ kk (thD_mk (SqT.of upd_same) (kk.sqT hx) (kz.sqT (SqT.of upd_same)) (c2.kp (ku.trans kz)))
def sp__law_machines (K : PySem.W.Frag) : Sp := fun vs H Q _ => ∃ (v : V) (ns : List Str) (cls : List (List (Str × Int))), vs = [v] ∧ Fd K H 4 v (thD ns (cls.map prsD)) ∧ cls.length ≤ 10 ∧ (∀ cl ∈ cls, gcl cl) ∧ ∀ v' H', Kp [] H H' → Fd K H' 6 v' (thD ns (oneD :: cls.map machD)) → Q v' H'
theorem ok__law_machines (T : Txt K mg A D) : FnOk P w K mg base CX0 2 (A 34) (D 34) ["_law_theory_here"] (sp__law_machines K) := by
  refine T.F__law_machines.ok sc__law_machines (fun vs H Q E h => ?_) (fun cdv A' outer s H vs Q E hr h => ?_)
  · obtain ⟨v, ns, cls, rfl, hv, hc, hg, q⟩ := h
    rfl
  · obtain ⟨v, ns, cls, rfl, hv, hc, hg, q⟩ := h
    have hu := hu_of hr
    have G__law_bit_rows : FnOk P w K mg base CX0 1 (A 27) (D 27) ["_law_count"] (sp__law_bit_rows K) := ok__law_bit_rows T
    have G__law_kept : FnOk P w K mg base CX0 1 (A 32) (D 32) ["_law_clause_here", "_law_row"] (sp__law_kept K) := ok__law_kept T
    refine ⟨_, (pss_cons (ps_set (i := 1) sc__law_machines.nd rfl (Or.inl rfl) (pe_lst (pa_cons (pe_tup (pa_cons (pe_tup pa_nil) (pa_cons (pe_tup (pa_cons (pe_tup (pa_cons pe_int pa_nil)) (pa_cons (pe_tup (pa_cons (pe_un un_neg pe_int) pa_nil)) pa_nil))) (pa_cons (pe_tup (pa_cons pe_int (pa_cons pe_int pa_nil))) pa_nil)))) pa_nil)))
      (pss_cons (ps_for PassesOwn.never rfl (iK_tup (K := K) rfl (pe_ix (xK_tup (K := K) rfl) (pv 0) pe_int (fun _ _ => rfl))) (pg_name (i := 2) sc__law_machines.nd rfl (Or.inl rfl))
        (pss_cons (ps_set (i := 3) sc__law_machines.nd rfl (Or.inl rfl) (pe_lst pa_nil))
        (pss_cons (ps_set (i := 4) sc__law_machines.nd rfl (Or.inl rfl) (pe_lst pa_nil))
        (pss_cons (ps_for PassesOwn.never rfl (iK_list (K := K) rfl (pe_call G__law_bit_rows (hr.mono (by decide)) rfl T.g__law_bit_rows T.F__law_bit_rows.kp T.b__law_bit_rows .nil pass0 (pa_cons (pe_callB (id := "len") (cK_len (K := K) rfl) (by rfl) T.z_len (by decide +kernel) (pa_cons (pv 2) pa_nil)) pa_nil))) (pg_name (i := 5) sc__law_machines.nd rfl (Or.inl rfl))
          (pss_cons (ps_set (i := 6) sc__law_machines.nd rfl (Or.inl rfl) (pe_un un_neg pe_int))
          (pss_cons (ps_if (pt_val (pe_call G__law_kept (hr.mono (by decide)) rfl T.g__law_kept T.F__law_kept.kp T.b__law_kept .nil pass0 (pa_cons (pv 2) (pa_cons (pv 5) pa_nil))))
            (pss_one (ps_set (i := 6) sc__law_machines.nd rfl (Or.inl rfl) pe_int))
            pss_nil)
          (pss_cons (ps_expr (pe_bm PySem.F.plainAttrs_list PySem.F.slot_list_append PySem.F.type_list_append mt_append (pv 3) (pa_cons (pv 6) pa_nil)))
          (pss_one (ps_expr (pe_bm PySem.F.plainAttrs_list PySem.F.slot_list_append PySem.F.type_list_append mt_append (pv 4) (pa_cons (pe_un un_neg pe_int) pa_nil))))))))
        (pss_cons (ps_set (i := 7) sc__law_machines.nd rfl (Or.inl rfl) (pe_callTy (T := "tuple") (cK_tuple (K := K) rfl) (by rfl) T.z_tuple (by decide +kernel) (pa_cons (pe_lc (own := [("_law_literal", 8)]) (g := gName 8) (tt := tYes) rfl sc__law_machines.nd (iK_tup (K := K) rfl (pv 2)) (blkOk_by (N := N__law_machines) (sc := defScope (topS 34)) (by decide +kernel)) (fun _ _ _ _ _ => (pg_name (i := 8) sc__law_machines.nd rfl (Or.inl rfl))) (fun _ _ _ _ _ => pts_nil) (fun _ _ _ _ _ => (pe_ix (xK_tup (K := K) rfl) (pv 8) pe_int (fun _ _ => rfl)))) pa_nil)))
        (pss_one (ps_expr (pe_bm PySem.F.plainAttrs_list PySem.F.slot_list_append PySem.F.type_list_append mt_append (pv 1) (pa_cons (pe_tup (pa_cons (pv 7) (pa_cons (pe_tup (pa_cons (pe_callTy (T := "tuple") (cK_tuple (K := K) rfl) (by rfl) T.z_tuple (by decide +kernel) (pa_cons (pv 3) pa_nil)) (pa_cons (pe_callTy (T := "tuple") (cK_tuple (K := K) rfl) (by rfl) T.z_tuple (by decide +kernel) (pa_cons (pv 4) pa_nil)) pa_nil))) (pa_cons (pe_tup (pa_cons pe_int (pa_cons pe_int pa_nil))) pa_nil)))) pa_nil)))))))))
      (pss_one (ps_ret (pe_tup (pa_cons (pe_ix (xK_tup (K := K) rfl) (pv 0) pe_int (fun _ _ => rfl)) (pa_cons (pe_callTy (T := "tuple") (cK_tuple (K := K) rfl) (by rfl) T.z_tuple (by decide +kernel) (pa_cons (pv 1) pa_nil)) pa_nil))))))), ?_⟩
    obtain ⟨t, x, y, cvs, rfl, h0, hx, hy, hcs⟩ := thD_inv (n := 2) hv
    have hcl : cvs.length = cls.length := by rw [hcs.length, List.length_map]
    walk_at "st"
    refine ⟨sz (by simp), fun a0 n0 => ⟨sz (by simp), fun a1 n1 => ⟨_, rfl, sz (by simp), fun a2 n2 => ⟨sz (by simp), fun a3 n3 => ⟨sz (by simp), fun a4 n4 => ⟨sz (by simp), fun a5 n5 => ⟨sz (by simp), fun D1 hD1' => ?_⟩⟩⟩⟩⟩⟩⟩
    have k0 := Kp.new (A := []) (o := .tup []) n0
    have k1 := Kp.new (A := []) (o := .tup [.int 1]) n1
    have k2 := Kp.new (A := []) (o := .tup [.int (-1)]) n2
    have k3 := Kp.new (A := []) (o := .tup [.ref a1, .ref a2]) n3
    have k4 := Kp.new (A := []) (o := .tup [.int 0, .int 1]) n4
    have k5 := Kp.new (A := []) (o := .tup [.ref a0, .ref a3, .ref a4]) n5
    have kD := Kp.new (A := []) (o := .lst [.ref a5]) hD1'
    have k45D := k4.trans (k5.trans kD)
    have k05 := k0.trans (k1.trans (k2.trans (k3.trans (k4.trans k5))))
    have hD1 : H D1 = none := k05.none List.not_mem_nil hD1'
    have pv0 : PvF [] K 3 H D1 [oneD] (upd (upd (upd (upd (upd (upd (upd H a0 (.tup [])) a1 (.tup [.int 1])) a2 (.tup [.int (-1)])) a3 (.tup [.ref a1, .ref a2])) a4 (.tup [.int 0, .int 1])) a5 (.tup [.ref a0, .ref a3, .ref a4])) D1 (.lst [.ref a5])) :=
      ⟨⟨_, upd_same, .one (.tup (kD.sqT (SqT.of upd_same)) (.cons (.tup ((k1.trans (k2.trans (k3.trans k45D))).sqT (SqT.of upd_same)) .nil) (.cons (.tup (k45D.sqT (SqT.of upd_same)) (.cons (row_fd (r := [1]) ((k2.trans (k3.trans k45D)).sqT (SqT.of upd_same))) (.cons (row_fd (r := [-1]) ((k3.trans k45D).sqT (SqT.of upd_same))) .nil))) (.cons (row_fd (r := [0, 1]) ((k5.trans kD).sqT (SqT.of upd_same))) .nil))))⟩, k05.trans kD⟩
    clear k0 k1 k2 k3 k4 k5 kD k45D k05 n0 n1 n2 n3 n4 n5 hD1'
    generalize upd (upd (upd (upd (upd (upd (upd H a0 (.tup [])) a1 (.tup [.int 1])) a2 (.tup [.int (-1)])) a3 (.tup [.ref a1, .ref a2])) a4 (.tup [.int 0, .int 1])) a5 (.tup [.ref a0, .ref a3, .ref a4])) D1 (.lst [.ref a5]) = H1 at pv0
    refine seq_forK ⟨_, rfl, t, _, 1, _, rfl, rfl, pv0.kp.sqT h0, rfl, y, rfl, ⟨_, pv0.kp.sqT hy⟩, for_seq walk_tup (fun i σ H' => (∃ v2 v3 v4 v5 v6 v7 v8 : Option V, σ = [some (.ref t), some (.ref D1), v2, v3, v4, v5, v6, v7, v8]) ∧ PvF [] K 3 H D1 (oneD :: (cls.take i).map machD) H') ⟨⟨_, _, _, _, _, _, _, rfl⟩, pv0⟩ (fun i σ H' _ z => z.2.kp.sqT hy) ?_ ?_⟩
    · rintro i w σ H2 H3 hi ⟨⟨v2, v3, v4, v5, v6, v7, v8, rfl⟩, pv⟩ ⟨rfl, hw⟩
      obtain ⟨cl, hcl', fc0⟩ := hcs.atm hw
      have cm := hg cl (List.mem_of_getElem? hcl')
      have fc := fc0.kp pv.kp
      obtain ⟨a, avs, rfl, ha, hc'⟩ := fc.tup_inv
      have hal : avs.length = cl.length := by rw [hc'.length, List.length_map]
      have sm := bitR_small (n := cl.length) cm.2
      refine gnK ?_
      walk_at "st"
      refine ⟨sz (by simp), fun f hf => ?_⟩
      walk_at "st"
      refine ⟨sz (by simp), fun e he => ?_⟩
      have kf := Kp.new (A := []) (o := .lst []) hf
      have ke := Kp.new (A := []) (o := .lst []) he
      have fe : f ≠ e := fun z => by rw [← z, upd_same] at he; cases he
      have he0 : H3 e = none := kf.none List.not_mem_nil he
      have kfe := kf.trans ke
      have f1 : (upd (upd H3 f (.lst [])) e (.lst [])) f = some (.lst []) := ke.get upd_same (.inl List.not_mem_nil)
      have g1 : (upd (upd H3 f (.lst [])) e (.lst [])) e = some (.lst []) := upd_same
      generalize upd (upd H3 f (.lst [])) e (.lst []) = H3' at kfe f1 g1
      refine seq_forK ⟨_, rfl, _, cl.length, rfl, .inr ⟨_, kfe.sqT ha, hal.symm⟩, cl.length, rfl, cm.2, fun l rvs H4 k4 hl0 h4 a4 => ?_⟩
      have lf : l ≠ f := fun z => by rw [z, f1] at hl0; cases hl0
      have le : l ≠ e := fun z => by rw [z, g1] at hl0; cases hl0
      refine ⟨l, rfl, ⟨_, SqL.of h4⟩, for_seq walk_list (fun j σ H' => (∃ v5 v6 v7 v8 : Option V, σ = [some (.ref t), some (.ref D1), some (.ref a), some (.ref f), some (.ref e), v5, v6, v7, v8]) ∧ H' f = some (.lst ((((bitR cl.length).take j).map (mvI cl)).map V.int)) ∧ H' e = some (.lst (List.replicate j (V.int (-1)))) ∧ Kp [f, e] H4 H')
        ⟨⟨_, _, _, _, rfl⟩, k4.get f1 (.inl List.not_mem_nil), k4.get g1 (.inl List.not_mem_nil), Kp.refl⟩ (fun j σ H' _ z => z.2.2.2.sqL (by simp [lf, le]) (SqL.of h4)) ?_ ?_⟩
      · rintro j w2 σ H5 H6 hj ⟨⟨v5, v6, v7, v8, rfl⟩, f6, g6, k6⟩ ⟨rfl, hw2⟩
        obtain ⟨r, hr, fr⟩ := a4.atm hw2
        have jl : j < 64 := by have := (List.getElem?_eq_some_iff.mp hr).1; omega
        have lr := bitR_len (List.mem_of_getElem? hr)
        have ln : (((bitR cl.length).take j).map (mvI cl)).length ≤ 64 := by have := tk_len (g := mvI cl) (xs := bitR cl.length) j; omega
        refine gnK ?_
        walk_at "st"
        refine ⟨_, rfl, ?_⟩
        refine seq_ifK0 ?_
        refine ⟨_, rfl, _, rfl, _, _, cl, r, rfl, (fc.kp (kfe.trans k4)).kp k6, fr.kp k6, lr, cm.2, fun H7 k7 => ⟨_, rfl, ?_⟩⟩
        have f7 := k7.get f6 (.inl List.not_mem_nil)
        have g7 := k7.get g6 (.inl List.not_mem_nil)
        cases c : keptB cl r with
        | true =>
          refine iteT ?_
          refine setK ?_
          dsimp only
          refine seq_dropK ?_
          refine ⟨_, rfl, .inl ⟨rfl, _, SqL.of f7⟩, _, rfl, f, _, _, rfl, rfl, f7, szl (by rw [List.length_map]; omega), ?_⟩
          have g8 : (upd H7 f (.lst ((((bitR cl.length).take j).map (mvI cl)).map V.int ++ [.int (1)]))) e = some (.lst (List.replicate j (V.int (-1)))) := by rw [upd_ne (Ne.symm fe)]; exact g7
          refine dropK' ?_
          refine ⟨_, rfl, .inl ⟨rfl, _, SqL.of g8⟩, _, rfl, e, _, _, rfl, rfl, g8, szl (by rw [List.length_replicate]; omega), ⟨_, _, _, _, rfl⟩, ?_, ?_, ?_⟩
          · rw [upd_ne fe, upd_same, tk_map hr, List.map_append, mvI, c]; rfl
          · rw [upd_same, List.replicate_succ']
          · exact k6.trans (k7.nil.trans ((Kp.own f7 rfl (by simp)).trans (Kp.own g8 rfl (by simp))))
        | false =>
          refine iteF ?_
          refine seq_dropK ?_
          refine ⟨_, rfl, .inl ⟨rfl, _, SqL.of f7⟩, _, rfl, f, _, _, rfl, rfl, f7, szl (by rw [List.length_map]; omega), ?_⟩
          have g8 : (upd H7 f (.lst ((((bitR cl.length).take j).map (mvI cl)).map V.int ++ [.int (-1)]))) e = some (.lst (List.replicate j (V.int (-1)))) := by rw [upd_ne (Ne.symm fe)]; exact g7
          refine dropK' ?_
          refine ⟨_, rfl, .inl ⟨rfl, _, SqL.of g8⟩, _, rfl, e, _, _, rfl, rfl, g8, szl (by rw [List.length_replicate]; omega), ⟨_, _, _, _, rfl⟩, ?_, ?_, ?_⟩
          · rw [upd_ne fe, upd_same, tk_map hr, List.map_append, mvI, c]; rfl
          · rw [upd_same, List.replicate_succ']
          · exact k6.trans (k7.nil.trans ((Kp.own f7 rfl (by simp)).trans (Kp.own g8 rfl (by simp))))
      rintro σ H5 ⟨⟨v5, v6, v7, v8, rfl⟩, f5, g5, k5⟩
      have rl : rvs.length = (bitR cl.length).length := by rw [a4.length, List.length_map]
      rw [rl, List.take_length] at f5
      rw [rl] at g5
      have k35 : Kp [] H3 H5 := Kp.back hf (Kp.back he0 ((kfe.trans k4).nil.trans (k5.sub (B := [e, f]) (by simp))))
      have ha5 := k35.sqT ha
      walk_at "st"
      refine ⟨_, rfl, a, rfl, ⟨_, ha5⟩, fun D3 hD3 => lc_it walk_tup (fun j H' => H' D3 = some (.lst (((cl.take j).map (·.1)).map V.str)) ∧ Kp [] H5 H') ⟨upd_same, Kp.new hD3⟩ (fun j H' _ z => z.2.sqT ha5) ?_ ?_⟩
      · rintro j w2 H6 H7 hj ⟨h6, k6⟩ ⟨rfl, hw2⟩
        obtain ⟨p, hp, fp⟩ := hc'.atm hw2
        obtain ⟨b, rfl, sb⟩ := prD_inv (fp.kp (k35.trans k6))
        refine gnK ⟨rfl, ?_⟩
        refine yesK ?_
        refine iteT ?_
        refine ⟨_, rfl, b, _, 0, _, rfl, rfl, sb, rfl, _, h6, szl (by have := tk_len (g := fun p : Str × Int => p.1) (xs := cl) j; rw [List.length_map]; have := cm.2; omega), ?_, k6.put hD3⟩
        rw [tk_map hp, List.map_append]; exact upd_same
      rintro H6 ⟨h6, k6⟩
      rw [hal, List.take_length] at h6
      refine ⟨D3, _, rfl, .inl ⟨SqL.of h6, fun u hu => ?_⟩⟩
      have ku := Kp.new (A := []) (o := .tup ((cl.map (·.1)).map V.str)) hu
      have k5u := k6.trans ku
      obtain ⟨acc0, c0, _⟩ := (pv.skip (k35.trans k5u) List.not_mem_nil).ex
      refine dropK' ?_
      refine ⟨_, rfl, .inl ⟨rfl, _, SqL.of c0⟩, _, rfl, _, rfl, f, _, rfl, .inl ⟨SqL.of (k5u.get f5 (.inl List.not_mem_nil)), fun b1 hb1 => ?_⟩⟩
      have kb1 := Kp.new (A := []) (o := .tup (((bitR cl.length).map (mvI cl)).map V.int)) hb1
      refine ⟨_, rfl, e, _, rfl, .inl ⟨SqL.of ((k5u.trans kb1).get g5 (.inl List.not_mem_nil)), fun b2 hb2 => ⟨sz (by simp), fun b3 hb3 => ⟨sz (by simp), fun b4 hb4 => ⟨sz (by simp), fun b5 hb5 => ?_⟩⟩⟩⟩⟩
      have kb2 := Kp.new (A := []) (o := .tup (List.replicate (bitR cl.length).length (V.int (-1)))) hb2
      have kb3 := Kp.new (A := []) (o := .tup [.ref b1, .ref b2]) hb3
      have kb4 := Kp.new (A := []) (o := .tup [.int 0, .int 1]) hb4
      have kb5 := Kp.new (A := []) (o := .tup [.ref u, .ref b3, .ref b4]) hb5
      have kb35 := kb3.trans (kb4.trans kb5)
      obtain ⟨acc, c1, c2, c3⟩ := pv.step (k35.trans (k5u.trans (kb1.trans (kb2.trans kb35)))) List.not_mem_nil hD1 (by have := tk_len (g := machD) (xs := cls) i; rw [List.length_cons]; omega)
        (d := machD cl) (.tup (SqT.of upd_same) (.cons (nm_fd ((kb1.trans (kb2.trans kb35)).sqT (SqT.of upd_same))) (.cons (.tup ((kb4.trans kb5).sqT (SqT.of upd_same)) (.cons (row_fd ((kb2.trans kb35).sqT (SqT.of upd_same))) (.cons (row_fd (by rw [List.map_replicate]; exact kb35.sqT (SqT.of upd_same))) .nil))) (.cons (row_fd (r := [0, 1]) (kb5.sqT (SqT.of upd_same))) .nil))))
      refine ⟨D1, acc, _, rfl, rfl, c1, c2, ⟨_, _, _, _, _, _, _, rfl⟩, c3.to ?_⟩
      rw [tk_map hcl']; rfl
    rintro σ H2 ⟨⟨v2, v3, v4, v5, v6, v7, v8, rfl⟩, pv⟩
    obtain ⟨acc, c1, c2⟩ := pv.ex
    rw [hcl, List.take_length] at c2
    walk_at "st"
    refine ⟨_, rfl, t, _, 0, _, rfl, rfl, pv.kp.sqT h0, rfl, _, rfl, D1, acc, rfl, .inl ⟨SqL.of c1, fun u hu => ⟨sz (by simp), fun z hz => ?_⟩⟩⟩
    have ku := Kp.new (A := []) (o := .tup acc) hu
    have kz := Kp.new (A := []) (o := .tup [.ref x, .ref u]) hz
    have kk := pv.kp.trans (ku.trans kz)
    exact q _ _ kk (thD_mk (n := 4) (SqT.of upd_same) (kk.sqT hx) (kz.sqT (SqT.of upd_same)) ((c2.kp (ku.trans kz)).up))
def sp__law_lines (K : PySem.W.Frag) : Sp := fun vs H Q _ => ∃ (v : V) (ns : List Str) (cs : List (Str × Str × Int)), vs = [v] ∧ Fd K H 3 v (thD ns (cs.map consD)) ∧ cs.length ≤ 10 ∧ ∀ v' H', Kp [] H H' → Fd K H' 5 v' (thD ns (cs.map lineD)) → Q v' H'
theorem ok__law_lines (T : Txt K mg A D) : FnOk P w K mg base CX0 1 (A 35) (D 35) ["_law_theory_here"] (sp__law_lines K) := by
  refine T.F__law_lines.ok sc__law_lines (fun vs H Q E h => ?_) (fun cdv A' outer s H vs Q E hr h => ?_)
  · obtain ⟨v, ns, cs, rfl, hv, hc, q⟩ := h
    rfl
  · obtain ⟨v, ns, cs, rfl, hv, hc, q⟩ := h
    have hu := hu_of hr
    refine ⟨_, (pss_cons (ps_set (i := 1) sc__law_lines.nd rfl (Or.inl rfl) (pe_lst pa_nil))
      (pss_cons (ps_for PassesOwn.never rfl (iK_tup (K := K) rfl (pe_ix (xK_tup (K := K) rfl) (pv 0) pe_int (fun _ _ => rfl))) (pg_name (i := 2) sc__law_lines.nd rfl (Or.inl rfl))
        (pss_cons (ps_set (i := 3) sc__law_lines.nd rfl (Or.inl rfl) (pe_lst pa_nil))
        (C8.pss_cut (ps_if (pt_cmpR op_ne (pe_ix (xK_tup (K := K) rfl) (pv 2) pe_int (fun _ _ => rfl)) pe_str (nomark _))
          (pss_one (ps_expr (pe_bm PySem.F.plainAttrs_list PySem.F.slot_list_append PySem.F.type_list_append mt_append (pv 3) (pa_cons (pe_tup (pa_cons (pe_ix (xK_tup (K := K) rfl) (pv 2) pe_int (fun _ _ => rfl)) (pa_cons pe_int pa_nil))) pa_nil))))
          pss_nil)
        (C8.pss_cut (ps_if (pt_cmpR op_ne (pe_ix (xK_tup (K := K) rfl) (pv 2) pe_int (fun _ _ => rfl)) pe_str (nomark _))
          (pss_one (ps_expr (pe_bm PySem.F.plainAttrs_list PySem.F.slot_list_append PySem.F.type_list_append mt_append (pv 3) (pa_cons (pe_tup (pa_cons (pe_ix (xK_tup (K := K) rfl) (pv 2) pe_int (fun _ _ => rfl)) (pa_cons (pe_un un_neg pe_int) pa_nil))) pa_nil))))
          pss_nil)
        (pss_one (ps_expr (pe_bm PySem.F.plainAttrs_list PySem.F.slot_list_append PySem.F.type_list_append mt_append (pv 1) (pa_cons (pe_tup (pa_cons (pe_callTy (T := "tuple") (cK_tuple (K := K) rfl) (by rfl) T.z_tuple (by decide +kernel) (pa_cons (pe_callB (id := "sorted") (cQ_sorted (K := K) rfl hr.units) (by rfl) T.z_sorted (by decide +kernel) (pa_cons (pv 3) pa_nil)) pa_nil)) (pa_cons pe_str (pa_cons (pe_ix (xK_tup (K := K) rfl) (pv 2) pe_int (fun _ _ => rfl)) pa_nil)))) pa_nil))))))))
      (pss_one (ps_ret (pe_tup (pa_cons (pe_ix (xK_tup (K := K) rfl) (pv 0) pe_int (fun _ _ => rfl)) (pa_cons (pe_callTy (T := "tuple") (cK_tuple (K := K) rfl) (by rfl) T.z_tuple (by decide +kernel) (pa_cons (pv 1) pa_nil)) pa_nil))))))), ?_⟩
    obtain ⟨t, x, y, cvs, rfl, h0, hx, hy, hcs⟩ := thD_inv (n := 1) hv
    have hcl : cvs.length = cs.length := by rw [hcs.length, List.length_map]
    walk_at "st"
    refine ⟨sz (by simp), fun D1 hD1 => ?_⟩
    have pv0 : PvF [] K 3 H D1 [] (upd H D1 (.lst [])) := pvF_0 hD1
    refine seq_forK ⟨_, rfl, t, _, 1, _, rfl, rfl, pv0.kp.sqT h0, rfl, y, rfl, ⟨_, pv0.kp.sqT hy⟩, for_seq walk_tup (fun i σ H' => (∃ v2 v3 : Option V, σ = [some (.ref t), some (.ref D1), v2, v3]) ∧ PvF [] K 3 H D1 ((cs.take i).map lineD) H') ⟨⟨_, _, rfl⟩, pv0⟩ (fun i σ H' _ z => z.2.kp.sqT hy) ?_ ?_⟩
    · rintro i w σ H2 H3 hi ⟨⟨v2, v3, rfl⟩, pv⟩ ⟨rfl, hw⟩
      obtain ⟨c, hc', fc0⟩ := hcs.atm hw
      obtain ⟨a, rfl, ha⟩ := consD_inv (fc0.kp pv.kp)
      refine gnK ?_
      walk_at "st"
      refine ⟨sz (by simp), fun l hl => ?_⟩
      refine cutK (fun σ H' => σ = [some (.ref t), some (.ref D1), some (.ref a), some (.ref l)] ∧ PvF [] K 1 H3 l ((if c.1 = "" then [] else [(c.1, (1 : Int))]).map prD) H') ?_ ?_
      · refine if_anK ?_
        have ha' := (Kp.new (A := []) (o := .lst []) hl).sqT ha
        refine ⟨_, rfl, a, _, 0, _, rfl, rfl, ha', rfl, rfl, _, rfl, ?_⟩
        refine ite2 (fun e => ?_) (fun e => ?_)
        · have e' : ¬ c.1 = "" := by simpa using e
          refine dropK' ?_
          refine ⟨_, rfl, .inl ⟨rfl, _, SqL.of upd_same⟩, _, rfl, a, _, 0, _, rfl, rfl, ha', rfl, sz (by simp), fun u hu => ?_⟩
          obtain ⟨acc, c1, c2, c3⟩ := (pvF_0 (A := []) (K := K) (lev := 1) hl).step (Kp.new (A := []) (o := .tup [.str c.1, .int 1]) hu) List.not_mem_nil hl (by simp) (pr_fd (n := 0) (SqT.of upd_same))
          exact ⟨l, acc, _, rfl, rfl, c1, c2, rfl, c3.to (by rw [if_neg e']; rfl)⟩
        · have e' : c.1 = "" := by simpa using e
          exact ⟨rfl, (pvF_0 hl).to (by rw [if_pos e']; rfl)⟩
      rintro σ H4 ⟨rfl, pv1⟩
      refine cutK (fun σ H' => σ = [some (.ref t), some (.ref D1), some (.ref a), some (.ref l)] ∧ PvF [] K 1 H3 l ((lineT c).map prD) H') ?_ ?_
      · refine if_anK ?_
        have ha' := pv1.kp.sqT ha
        refine ⟨_, rfl, a, _, 1, _, rfl, rfl, ha', rfl, rfl, _, rfl, ?_⟩
        refine ite2 (fun e => ?_) (fun e => ?_)
        · have e' : ¬ c.2.1 = "" := by simpa using e
          refine dropK' ?_
          obtain ⟨acc0, c0, _⟩ := pv1.ex
          refine ⟨_, rfl, .inl ⟨rfl, _, SqL.of c0⟩, _, rfl, a, _, 1, _, rfl, rfl, ha', rfl, _, rfl, sz (by simp), fun u hu => ?_⟩
          obtain ⟨acc, c1, c2, c3⟩ := pv1.step (Kp.new (A := []) (o := .tup [.str c.2.1, .int (-1)]) hu) List.not_mem_nil hl (by split <;> simp) (pr_fd (n := 0) (SqT.of upd_same))
          refine ⟨l, acc, _, rfl, rfl, c1, c2, rfl, c3.to ?_⟩
          unfold lineT
          by_cases e2 : c.1 = "" <;> simp [e2, e']
        · have e' : c.2.1 = "" := by simpa using e
          refine ⟨rfl, pv1.to ?_⟩
          unfold lineT
          by_cases e2 : c.1 = "" <;> simp [e2, e']
      rintro σ H5 ⟨rfl, pv2⟩
      obtain ⟨acc, c1, c2⟩ := pv2.ex
      obtain ⟨acc0, c0, _⟩ := (pv.skip pv2.kp List.not_mem_nil).ex
      refine dropK' ?_
      refine ⟨_, rfl, .inl ⟨rfl, _, SqL.of c0⟩, _, rfl, l, acc, (lineT c).map prD, rfl, SqL.of c1, c2.dp, prs_alike _, .inl (prs_sortable _), fun d hd => ?_, fun ys p hy' hp => ?_⟩
      · obtain ⟨r, _, rfl⟩ := List.mem_map.mp hd
        simp [prD, PyData.depth, PyData.depthAll]
      have fy : FdAll K H5 1 ys (srtP (lineT c)) := srt_fd hy'
      have kp := Kp.new (A := []) (o := .lst ys) hp
      refine ⟨p, ys, rfl, .inl ⟨SqL.of upd_same, fun u hu => ⟨_, rfl, a, [.str c.1, .str c.2.1, .int c.2.2], 2, _, rfl, rfl, (pv2.kp.trans (kp.trans (Kp.new hu))).sqT ha, rfl, sz (by simp), fun z hz => ?_⟩⟩⟩
      have ku := Kp.new (A := []) (o := .tup ys) hu
      have kz := Kp.new (A := []) (o := .tup [.ref u, .str "<=", .int c.2.2]) hz
      have kk := kp.trans (ku.trans kz)
      obtain ⟨acc, c1, c2, c3⟩ := pv.step (pv2.kp.trans kk) List.not_mem_nil hD1 (by have := tk_len (g := lineD) (xs := cs) i; omega)
        (d := lineD c) (.tup (SqT.of upd_same) (.cons (.tup (kz.sqT (SqT.of upd_same)) (fy.kp kk)) (.cons (.str _) (.cons (.int _) .nil))))
      exact ⟨D1, acc, _, rfl, rfl, c1, c2, ⟨_, _, rfl⟩, c3.to (tk_map hc').symm⟩
    rintro σ H2 ⟨⟨v2, v3, rfl⟩, pv⟩
    obtain ⟨acc, c1, c2⟩ := pv.ex
    rw [hcl, List.take_length] at c2
    walk_at "st"
    refine ⟨_, rfl, t, _, 0, _, rfl, rfl, pv.kp.sqT h0, rfl, _, rfl, D1, acc, rfl, .inl ⟨SqL.of c1, fun u hu => ⟨sz (by simp), fun z hz => ?_⟩⟩⟩
    have ku := Kp.new (A := []) (o := .tup acc) hu
    have kz := Kp.new (A := []) (o := .tup [.ref x, .ref u]) hz
    have kk := pv.kp.trans (ku.trans kz)
    exact q _ _ kk (thD_mk (SqT.of upd_same) (kk.sqT hx) (kz.sqT (SqT.of upd_same)) (c2.kp (ku.trans kz)))
def sp__law_parity (K : PySem.W.Frag) : Sp := fun vs H Q _ => ∃ (s a : Addr) (ns : List Str), vs = [.ref s, .ref a] ∧ Src H s ∧ SqL K H a (ns.map V.str) ∧ a ≠ s ∧ ns.length ≤ 6 ∧ ∀ v' (p : Par) H', Kp [s] H H' → Src H' s → p.1.length ≤ 6 → p.2.2.natAbs ≤ 1000 → Fd K H' 3 v' (parD p) → Q v' H'
theorem ok__law_parity (T : Txt K mg A D) : FnOk P w K mg base CX0 2 (A 36) (D 36) ["_law_source_here", "_law_names"] (sp__law_parity K) := by
  refine T.F__law_parity.ok sc__law_parity (fun vs H Q E h => ?_) (fun cdv A' outer s H vs Q E hr h => ?_)
  · obtain ⟨s, a, ns, rfl, hs, ha, ne, hl, q⟩ := h
    rfl
  · obtain ⟨s, a, ns, rfl, hs, ha, ne, hl, q⟩ := h
    have hu := hu_of hr
    have G__law_draw : FnOk P w K mg base CX0 1 (A 22) (D 22) ["_law_source_here", "_law_limit"] (sp__law_draw K) := ok__law_draw T
    refine ⟨_, (pss_cons (ps_set (i := 2) sc__law_parity.nd rfl (Or.inl rfl) (pe_call G__law_draw (hr.mono (by decide)) rfl T.g__law_draw T.F__law_draw.kp T.b__law_draw .nil pass0 (pa_cons (pv 0) (pa_cons pe_int pa_nil))))
      (pss_cons (ps_if (pt_cmpR op_eq (pv 2) pe_int (nomark _))
        (pss_one (ps_ret (pe_tup (pa_cons (pe_tup pa_nil) (pa_cons pe_int (pa_cons pe_int pa_nil))))))
        pss_nil)
      (pss_cons (ps_set (i := 3) sc__law_parity.nd rfl (Or.inl rfl) (pe_lst pa_nil))
      (pss_cons (ps_for PassesOwn.never rfl (iK_list (K := K) rfl (pv 1)) (pg_name (i := 4) sc__law_parity.nd rfl (Or.inl rfl))
        (pss_cons (ps_set (i := 5) sc__law_parity.nd rfl (Or.inl rfl) (pe_op op_sub (pe_call G__law_draw (hr.mono (by decide)) rfl T.g__law_draw T.F__law_draw.kp T.b__law_draw .nil pass0 (pa_cons (pv 0) (pa_cons pe_int pa_nil))) pe_int))
        (pss_one (ps_if (PW.pt (pw_and (pt_cmpR op_ne (pv 5) pe_int (nomark _)) (pw_and1 (pt_cmpR op_gt (pe_call G__law_draw (hr.mono (by decide)) rfl T.g__law_draw T.F__law_draw.kp T.b__law_draw .nil pass0 (pa_cons (pv 0) (pa_cons pe_int pa_nil))) pe_int (nomark _)))))
          (pss_one (ps_expr (pe_bm PySem.F.plainAttrs_list PySem.F.slot_list_append PySem.F.type_list_append mt_append (pv 3) (pa_cons (pe_tup (pa_cons (pv 4) (pa_cons (pv 5) pa_nil))) pa_nil))))
          pss_nil))))
      (pss_cons (ps_set (i := 6) sc__law_parity.nd rfl (Or.inl rfl) (pe_op op_sub (pe_call G__law_draw (hr.mono (by decide)) rfl T.g__law_draw T.F__law_draw.kp T.b__law_draw .nil pass0 (pa_cons (pv 0) (pa_cons pe_int pa_nil))) pe_int))
      (pss_cons (ps_if (pt_cmpR op_eq (pv 2) pe_int (nomark _))
        (pss_one (ps_ret (pe_tup (pa_cons (pe_callTy (T := "tuple") (cK_tuple (K := K) rfl) (by rfl) T.z_tuple (by decide +kernel) (pa_cons (pv 3) pa_nil)) (pa_cons (pe_ix (xK_list (K := K) rfl) (pe_lst (pa_cons pe_int (pa_cons pe_int (pa_cons pe_int (pa_cons pe_int (pa_cons pe_int (pa_cons pe_int pa_nil))))))) (pe_call G__law_draw (hr.mono (by decide)) rfl T.g__law_draw T.F__law_draw.kp T.b__law_draw .nil pass0 (pa_cons (pv 0) (pa_cons pe_int pa_nil))) (fun _ _ => rfl)) (pa_cons (pv 6) pa_nil))))))
        pss_nil)
      (pss_cons (ps_if (pt_cmpR op_eq (pv 2) pe_int (nomark _))
        (pss_one (ps_ret (pe_tup (pa_cons (pe_tup pa_nil) (pa_cons (pe_call G__law_draw (hr.mono (by decide)) rfl T.g__law_draw T.F__law_draw.kp T.b__law_draw .nil pass0 (pa_cons (pv 0) (pa_cons pe_int pa_nil))) (pa_cons (pe_op op_add pe_int (pe_call G__law_draw (hr.mono (by decide)) rfl T.g__law_draw T.F__law_draw.kp T.b__law_draw .nil pass0 (pa_cons (pv 0) (pa_cons pe_int pa_nil)))) pa_nil))))))
        pss_nil)
      (pss_one (ps_ret (pe_tup (pa_cons (pe_callTy (T := "tuple") (cK_tuple (K := K) rfl) (by rfl) T.z_tuple (by decide +kernel) (pa_cons (pv 3) pa_nil)) (pa_cons pe_int (pa_cons (pv 6) pa_nil))))))))))))), ?_⟩
    walk_at "st"
    refine ⟨_, rfl, s, 24, rfl, hs, by decide, by decide, fun ch H1 c0 c1 k1 s1 => ?_⟩
    walk_at "st"
    refine ⟨_, rfl, rfl, _, rfl, ?_⟩
    refine ite2 (fun c => ?_) (fun c => ?_)
    · walk_at "st"
      refine ⟨sz (by simp), fun u hu => ⟨sz (by simp), fun z hz => ?_⟩⟩
      have ku := Kp.new (A := []) (o := .tup []) hu
      have kz := Kp.new (A := []) (o := .tup [.ref u, .int 0, .int 1]) hz
      have kk := ku.trans kz
      exact q _ never _ (k1.trans kk.nil) (s1.kp kk List.not_mem_nil) (by decide) (by decide) (.tup (SqT.of upd_same) (.cons (.tup (kz.sqT (SqT.of upd_same)) .nil) (.cons (.int _) (.cons (.int _) .nil))))
    walk_at "st"
    refine ⟨sz (by simp), fun l hl0 => ?_⟩
    have ls := ne_src s1 hl0
    have ls' : l ∉ [s] := by simpa using ls
    have ne' : a ∉ [s] := by simpa using ne
    have a1 := k1.sqL ne' ha
    refine seq_forK ⟨_, rfl, a, rfl, ⟨_, (Kp.new (A := []) hl0).sqL List.not_mem_nil a1⟩, for_seq walk_list (fun i σ H' => (∃ v4 v5 v6 : Option V, σ = [some (.ref s), some (.ref a), some (.int ch), some (.ref l), v4, v5, v6]) ∧ ∃ ts : List (Str × Int), ts.length ≤ i ∧ PvF [s] K 1 H1 l (ts.map prD) H' ∧ Src H' s) ⟨⟨_, _, _, rfl⟩, [], Nat.le_refl _, pvF_0 hl0, s1.kp (Kp.new (A := []) hl0) List.not_mem_nil⟩ (fun i σ H' _ z => by obtain ⟨_, _, _, k, _⟩ := z; exact k.kp.sqL ne' a1) ?_ ?_⟩
    · rintro i w σ H2 H3 hi ⟨⟨v4, v5, v6, rfl⟩, ts, tl, pv, s2⟩ ⟨rfl, hw⟩
      rw [List.getElem?_map] at hw
      obtain ⟨z, hz, rfl⟩ := Option.map_eq_some_iff.mp hw
      have il := (List.getElem?_eq_some_iff.mp hz).1
      refine gnK ?_
      walk_at "st"
      refine ⟨_, rfl, s, 19, rfl, s2, by decide, by decide, fun r H4 r0 r1 k4 s4 => ⟨_, _, rfl, rfl, ?_⟩⟩
      have pv4 := pv.skip k4 ls'
      refine if_anK ?_
      refine ⟨_, rfl, rfl, _, rfl, ?_⟩
      refine ite2 (fun c => ?_) (fun c => ?_)
      · refine ⟨_, rfl, s, 4, rfl, s4, by decide, by decide, fun r2 H5 r20 r21 k5 s5 => ⟨_, _, rfl, rfl, _, rfl, ?_⟩⟩
        have pv5 := pv4.skip k5 ls'
        refine ite2 (fun c => ?_) (fun c => ?_)
        · refine dropK' ?_
          obtain ⟨acc0, c0', _⟩ := pv5.ex
          refine ⟨_, rfl, .inl ⟨rfl, _, SqL.of c0'⟩, _, rfl, _, rfl, sz (by simp), fun u hu => ?_⟩
          have ku := Kp.new (A := []) (o := .tup [.str z, .int (r - 9)]) hu
          obtain ⟨acc, c1, c2, c3⟩ := pv5.step ku.nil ls' hl0 (by rw [List.length_map]; omega) (pr_fd (n := 0) (SqT.of upd_same))
          exact ⟨l, acc, _, rfl, rfl, c1, c2, ⟨_, _, _, rfl⟩, ts ++ [(z, r - 9)], by simp; omega, c3.to (by rw [List.map_append]; rfl), (s5.kp ku List.not_mem_nil).kp (Kp.own (A := [l]) c1 rfl (by simp)) (by simpa using Ne.symm ls)⟩
        · exact ⟨⟨_, _, _, rfl⟩, ts, by omega, pv5, s5⟩
      · refine iteF ?_
        exact ⟨⟨_, _, _, rfl⟩, ts, by omega, pv4, s4⟩
    rintro σ H2 ⟨⟨v4, v5, v6, rfl⟩, ts, tl, pv, s2⟩
    rw [List.length_map] at tl
    walk_at "st"
    refine ⟨_, rfl, s, 199, rfl, s2, by decide, by decide, fun r H3 r0 r1 k3 s3 => ⟨_, _, rfl, rfl, ?_⟩⟩
    have pv3 := pv.skip k3 ls'
    obtain ⟨acc, a0', a1'⟩ := pv3.ex
    have fin : ∀ (m : Int) (u : Addr) (H4 H5 : Hp) (z : Addr), Kp [s] H3 H4 → Src H4 s → H4 u = some (.tup acc) → H4 z = none → q = q → Q (.ref z) (upd H4 z (.tup [.ref u, .int m, .int (r - 99)])) := fun m u H4 _ z k4 s4 hu hz _ => by
      have kz := Kp.new (A := []) (o := .tup [.ref u, .int m, .int (r - 99)]) hz
      exact q _ (ts, m, r - 99) _ (k1.trans (pv3.kp.trans (k4.trans kz.nil))) (s4.kp kz List.not_mem_nil) (by show ts.length ≤ 6; omega) (by show (r - 99).natAbs ≤ 1000; omega) (.tup (SqT.of upd_same) (.cons (.tup (kz.sqT (SqT.of hu)) ((a1'.kp k4).kp kz)) (.cons (.int _) (.cons (.int _) .nil))))
    walk_at "st"
    refine ⟨_, rfl, rfl, _, rfl, ?_⟩
    refine ite2 (fun c => ?_) (fun c => ?_)
    · walk_at "st"
      refine ⟨_, rfl, l, acc, rfl, .inl ⟨SqL.of a0', fun u hu => ⟨sz (by simp), fun p hp => ?_⟩⟩⟩
      have ku := Kp.new (A := []) (o := .tup acc) hu
      have kp := Kp.new (A := []) (o := .lst [.int 0, .int 1, .int 3, .int 4, .int 6, .int 12]) hp
      have s4 := s3.kp (ku.trans kp) List.not_mem_nil
      refine ⟨_, rfl, s, 6, rfl, s4, by decide, by decide, fun d H5 d0 d1 k5 s5 => ?_⟩
      have pl : p ≠ s := ne_src (s3.kp ku List.not_mem_nil) hp
      obtain ⟨j, rfl⟩ := Int.eq_ofNat_of_zero_le d0
      have jl : j < 6 := by omega
      obtain ⟨m, hm⟩ : ∃ m : Int, ([.int 0, .int 1, .int 3, .int 4, .int 6, .int 12] : List V)[j]? = some (.int m) := by
        have : j = 0 ∨ j = 1 ∨ j = 2 ∨ j = 3 ∨ j = 4 ∨ j = 5 := by omega
        rcases this with e | e | e | e | e | e <;> subst e <;> exact ⟨_, rfl⟩
      refine ⟨p, _, _, .int m, rfl, rfl, SqL.of (k5.get (a := p) upd_same (.inl (by simpa using pl))), atI_nat hm, _, rfl, sz (by simp), fun z hz => ?_⟩
      exact fin m u H5 H5 z ((ku.trans kp).nil.trans k5) s5 (k5.get (kp.get upd_same (.inl List.not_mem_nil)) (.inr rfl)) hz rfl
    walk_at "st"
    refine ⟨_, rfl, rfl, _, rfl, ?_⟩
    refine ite2 (fun c => ?_) (fun c => ?_)
    · walk_at "st"
      refine ⟨sz (by simp), fun u hu => ?_⟩
      have ku := Kp.new (A := []) (o := .tup []) hu
      refine ⟨_, rfl, s, 2, rfl, s3.kp ku List.not_mem_nil, by decide, by decide, fun d H5 d0 d1 k5 s5 => ⟨_, rfl, s, 3, rfl, s5, by decide, by decide, fun d' H6 d0' d1' k6 s6 => ⟨_, _, rfl, rfl, sz (by simp), fun z hz => ?_⟩⟩⟩
      have kz := Kp.new (A := []) (o := .tup [.ref u, .int d, .int (1 + d')]) hz
      have kk : Kp [s] H3 (upd H6 z (.tup [.ref u, .int d, .int (1 + d')])) := ku.nil.trans (k5.trans (k6.trans kz.nil))
      exact q _ ([], d, 1 + d') _ (k1.trans (pv3.kp.trans kk)) (s6.kp kz List.not_mem_nil) (Nat.zero_le _) (by show (1 + d').natAbs ≤ 1000; omega) (.tup (SqT.of upd_same) (.cons (.tup ((k5.trans (k6.trans kz.nil)).sqT (SqT.of upd_same)) .nil) (.cons (.int _) (.cons (.int _) .nil))))
    · walk_at "st"
      refine ⟨_, rfl, l, acc, rfl, .inl ⟨SqL.of a0', fun u hu => ⟨_, rfl, sz (by simp), fun z hz => ?_⟩⟩⟩
      have ku := Kp.new (A := []) (o := .tup acc) hu
      exact fin 2 u _ H3 z ku.nil (s3.kp ku List.not_mem_nil) upd_same hz rfl
def sp__law_clauses (K : PySem.W.Frag) : Sp := fun vs H Q _ => ∃ (v : V) (p : Par), vs = [v] ∧ Fd K H 3 v (parD p) ∧ p.1.length ≤ 6 ∧ p.2.2.natAbs ≤ 1000 ∧ ∀ l xs H', Kp [] H H' → H' l = some (.lst xs) → FdAll K H' 2 xs ((clsOf p.1 p.2.2).map prsD) → H l = none → Q (.ref l) H'
theorem ok__law_clauses (T : Txt K mg A D) : FnOk P w K mg base CX0 2 (A 37) (D 37) ["_law_parity_here"] (sp__law_clauses K) := by
  refine T.F__law_clauses.ok sc__law_clauses (fun vs H Q E h => ?_) (fun cdv A' outer s H vs Q E hr h => ?_)
  · obtain ⟨v, p, rfl, hv, hl, hrs, q⟩ := h
    rfl
  · obtain ⟨v, p, rfl, hv, hl, hrs, q⟩ := h
    have hu := hu_of hr
    have G__law_bit_rows : FnOk P w K mg base CX0 1 (A 27) (D 27) ["_law_count"] (sp__law_bit_rows K) := ok__law_bit_rows T
    refine ⟨_, (pss_cons (ps_set (i := 1) sc__law_clauses.nd rfl (Or.inr rfl) (pe_lc (own := [("_law_term", 6)]) (g := gName 6)  rfl sc__law_clauses.nd (iK_tup (K := K) rfl (pe_ix (xK_tup (K := K) rfl) (pv 0) pe_int (fun _ _ => rfl))) (blkOk_by (N := N__law_clauses) (sc := defScope (topS 37)) (by decide +kernel)) (fun _ _ _ _ _ => (pg_name (i := 6) sc__law_clauses.nd rfl (Or.inl rfl))) (fun _ _ _ _ _ => (pts_one (pt_cmpR op_eq (pe_op op_mod (pe_callTy (T := "int") call_int1 (by rfl) T.z_int (by decide +kernel) (pa_cons (pe_ix (xK_tup (K := K) rfl) (pv 6) pe_int (fun _ _ => rfl)) pa_nil)) pe_int) pe_int (nomark _)))) (fun _ _ _ _ _ => (pe_ix (xK_tup (K := K) rfl) (pv 6) pe_int (fun _ _ => rfl)))))
      (pss_cons (ps_set (i := 2) sc__law_clauses.nd rfl (Or.inl rfl) (pe_lst pa_nil))
      (pss_cons (ps_for PassesOwn.never rfl (iK_list (K := K) rfl (pe_call G__law_bit_rows (hr.mono (by decide)) rfl T.g__law_bit_rows T.F__law_bit_rows.kp T.b__law_bit_rows .nil pass0 (pa_cons (pe_callB (id := "len") (cK_len (K := K) rfl) (by rfl) T.z_len (by decide +kernel) (pa_cons (pv 1) pa_nil)) pa_nil))) (pg_name (i := 3) sc__law_clauses.nd rfl (Or.inr rfl))
        (pss_cons (ps_set (i := 4) sc__law_clauses.nd rfl (Or.inl rfl) pe_int)
        (pss_cons (ps_for PassesOwn.never rfl (iK_tup (K := K) rfl (pv 3)) (pg_name (i := 5) sc__law_clauses.nd rfl (Or.inl rfl))
          (pss_one (ps_set (i := 4) sc__law_clauses.nd rfl (Or.inl rfl) (pe_op op_sub (pe_op op_add (pv 4) pe_int) (pv 5)))))
        (pss_one (ps_if (pt_cmpR op_eq (pe_op op_mod (pe_callTy (T := "int") call_int1 (by rfl) T.z_int (by decide +kernel) (pa_cons (pe_op op_sub (pv 4) (pe_ix (xK_tup (K := K) rfl) (pv 0) pe_int (fun _ _ => rfl))) pa_nil)) pe_int) pe_int (nomark _))
          (pss_one (ps_expr (pe_bm PySem.F.plainAttrs_list PySem.F.slot_list_append PySem.F.type_list_append mt_append (pv 2) (pa_cons (pe_callTy (T := "tuple") (cK_tuple (K := K) rfl) (by rfl) T.z_tuple (by decide +kernel) (pa_cons (pe_lc (own := [("_law_k", 7)]) (g := gName 7) (tt := tYes) rfl sc__law_clauses.nd (pi_range1 rfl T.z_range (pa_cons (pe_callB (id := "len") (cK_len (K := K) rfl) (by rfl) T.z_len (by decide +kernel) (pa_cons (pv 1) pa_nil)) pa_nil)) (blkOk_by (N := N__law_clauses) (sc := defScope (topS 37)) (by decide +kernel)) (fun _ _ _ _ _ => (pg_name (i := 7) sc__law_clauses.nd rfl (Or.inl rfl))) (fun _ _ _ _ _ => pts_nil) (fun _ _ _ _ _ => (pe_tup (pa_cons (pe_ix (xK_list (K := K) rfl) (pv 1) (pv 7) (fun _ _ => rfl)) (pa_cons (pe_ix (xK_tup (K := K) rfl) (pv 3) (pv 7) (fun _ _ => rfl)) pa_nil))))) pa_nil)) pa_nil))))
          pss_nil)))))
      (pss_one (ps_ret (pv 2)))))), ?_⟩
    obtain ⟨a, x, rfl, ha, hx⟩ := parD_inv hv
    obtain ⟨x, cvs, rfl, hxs, hc⟩ := hx.tup_inv
    generalize hts : p.1 = ts at hl hc q
    generalize hre : p.2.2 = rest at hrs ha q
    have hcl : cvs.length = ts.length := by rw [hc.length, List.length_map]
    have ol := odd_len hl
    walk_at "st"
    refine ⟨_, rfl, a, _, 0, _, rfl, rfl, ha, rfl, x, rfl, ⟨_, hxs⟩, fun D hD => lc_it walk_tup (fun i H' => H' D = some (.lst ((((ts.take i).filter fun t => decide (t.2 % 2 = 1)).map (·.1)).map V.str)) ∧ Kp [] H H') ⟨upd_same, Kp.new hD⟩ (fun i H' _ z => z.2.sqT hxs) ?_ ?_⟩
    · rintro i w H1 H2 hi ⟨h1, k1⟩ ⟨rfl, hw⟩
      obtain ⟨p, hp, fp⟩ := hc.atm hw
      obtain ⟨b, rfl, sb⟩ := prD_inv (fp.kp k1)
      refine gnK ⟨rfl, ?_⟩
      refine ⟨_, rfl, b, _, 1, _, rfl, rfl, sb, rfl, .inl ⟨_, rfl, _, _, rfl, rfl, (by show (0 : Int) < _; decide), rfl, _, rfl, ?_⟩⟩
      refine ite2 (fun e => ?_) (fun e => ?_)
      · have e' : decide (p.2 % 2 = 1) = true := by simpa using e
        refine ⟨_, rfl, b, _, 0, _, rfl, rfl, sb, rfl, _, h1, szl (by have := tk_filLen (p := fun t : Str × Int => decide (t.2 % 2 = 1)) (g := fun p : Str × Int => p.1) (xs := ts) i; rw [List.length_map]; omega), ?_, k1.put hD⟩
        rw [tk_filT hp e', List.map_append]; exact upd_same
      · have e' : decide (p.2 % 2 = 1) = false := by simpa using e
        exact ⟨by rw [tk_filF hp e']; exact h1, k1⟩
    rintro H1 ⟨h1, k1⟩
    rw [hcl, List.take_length] at h1
    have h1' : H1 D = some (.lst ((oddN ts).map V.str)) := h1
    walk_at "st"
    refine ⟨sz (by simp), fun l hl0 => ?_⟩
    have kl : Kp [] H1 (upd H1 l (.lst [])) := Kp.new hl0
    have hlH : H l = none := k1.none List.not_mem_nil hl0
    have sm := bitR_small (n := (oddN ts).length) ol
    refine seq_forK ⟨_, rfl, _, (oddN ts).length, rfl, .inl ⟨_, SqL.of (kl.get h1' (.inl List.not_mem_nil)), by simp⟩, (oddN ts).length, rfl, ol, fun t3 rvs H3 k3 n3 s3 a3 => ?_⟩
    have hl3 := k3.get (a := l) upd_same (.inl List.not_mem_nil)
    have t3l : t3 ∉ [l] := by
      have : t3 ≠ l := fun z => by rw [z, upd_same] at n3; cases n3
      simpa using this
    have pv0 : PvF [] K 2 H1 l [] H3 := ⟨⟨[], hl3, .nil⟩, kl.trans k3⟩
    refine ⟨t3, rfl, ⟨_, SqL.of s3⟩, for_seq walk_list (fun i σ H' => (∃ v3 v4 v5 v6 v7 : Option V, σ = [some (.ref a), some (.ref D), some (.ref l), v3, v4, v5, v6, v7]) ∧ PvF [] K 2 H1 l (((((bitR (oddN ts).length).take i).filter (wrong (oddN ts).length rest)).map fun s => (oddN ts).zip s).map prsD) H' ∧ SqL K H' t3 rvs ∧ FdAll K H' 1 rvs ((bitR (oddN ts).length).map rowD)) ⟨⟨_, _, _, _, _, rfl⟩, pv0, SqL.of s3, a3⟩ (fun i σ H' _ z => z.2.2.1) ?_ ?_⟩
    · rintro i w σ H4 H5 hi ⟨⟨v3, v4, v5, v6, v7, rfl⟩, pv, s4, a4⟩ ⟨rfl, hw⟩
      obtain ⟨r, hr, fr⟩ := a4.atm hw
      have lr := bitR_len (List.mem_of_getElem? hr)
      obtain ⟨b, rfl, sb⟩ := rowD_inv fr
      have hD5 := pv.kp.get h1' (.inl List.not_mem_nil)
      have ha5 := (k1.trans pv.kp).sqT ha
      have fl : ((((bitR (oddN ts).length).take i).filter (wrong (oddN ts).length rest)).map fun s => (oddN ts).zip s).length ≤ 64 := by have := tk_filLen (p := wrong (oddN ts).length rest) (g := fun s => (oddN ts).zip s) (xs := bitR (oddN ts).length) i; omega
      refine gnK ?_
      walk_at "st"
      refine seq_forK ⟨_, rfl, b, rfl, ⟨_, sb⟩, for_seq walk_tup (fun j σ H' => (∃ v5 : Option V, σ = [some (.ref a), some (.ref D), some (.ref l), some (.ref b), some (.int ((j : Int) - (r.take j).sum)), v5, v6, v7]) ∧ H' = H5) ⟨⟨_, rfl⟩, rfl⟩ (fun j σ H' _ z => by rw [z.2]; exact sb) ?_ ?_⟩
      · rintro j w2 σ H6 H7 hj ⟨⟨v5', rfl⟩, rfl⟩ ⟨rfl, hw2⟩
        rw [List.getElem?_map] at hw2
        obtain ⟨z, hz, rfl⟩ := Option.map_eq_some_iff.mp hw2
        refine gnK ?_
        walk_at "st"
        refine ⟨_, rfl, _, _, rfl, rfl, _, rfl, _, _, rfl, rfl, ?_⟩
        refine ⟨⟨some (V.int z), ?_⟩, rfl⟩
        have e : (j : Int) - (r.take j).sum + 1 - z = ((j + 1 : Nat) : Int) - (r.take (j + 1)).sum := by
          rw [List.take_add_one, hz, Option.toList_some, List.sum_append]
          simp; omega
        show [_, _, _, _, some (V.int ((j : Int) - (r.take j).sum + 1 - z)), _, _, _] = _
        rw [e]
      rintro σ H6 ⟨⟨v5', rfl⟩, rfl⟩
      rw [List.length_map, List.take_length, lr]
      refine if_anK ?_
      refine ⟨_, rfl, _, rfl, a, _, 2, _, rfl, rfl, ha5, rfl, _, _, rfl, rfl, .inl ⟨_, rfl, _, _, rfl, rfl, (by show (0 : Int) < _; decide), rfl, _, rfl, ?_⟩⟩
      refine ite2 (fun e => ?_) (fun e => ?_)
      · have e' : wrong (oddN ts).length rest r = true := by unfold wrong; simpa using e
        refine dropK' ?_
        obtain ⟨acc0, c0, _⟩ := pv.ex
        refine ⟨_, rfl, .inl ⟨rfl, _, SqL.of c0⟩, _, rfl, _, (oddN ts).length, rfl, .inl ⟨_, SqL.of hD5, by simp⟩, _, rfl, by omega, by omega, fun D2 hD2 => lc_it walk_range (fun j H' => PvF [] K 1 H6 D2 ((((oddN ts).zip r).take j).map prD) H') (pvF_0 hD2) (fun _ _ _ _ => trivial) ?_ ?_⟩
        · rintro j w2 H7 H8 hj pv6 ⟨rfl, rfl⟩
          have jl : j < (oddN ts).length := hj
          obtain ⟨s, hs⟩ : ∃ s, (oddN ts)[j]? = some s := ⟨_, List.getElem?_eq_getElem jl⟩
          obtain ⟨z, hz⟩ : ∃ z, r[j]? = some z := ⟨_, List.getElem?_eq_getElem (by omega)⟩
          refine gnK ⟨rfl, ?_⟩
          refine yesK ?_
          refine iteT ?_
          refine ⟨_, rfl, _, rfl, D, _, _, .str s, rfl, rfl, SqL.of (pv6.kp.get hD5 (.inl List.not_mem_nil)), atI_nat' (n := j) (by rw [List.getElem?_map, hs]; rfl) (by simp), _, rfl, _, rfl, b, _, _, .int z, rfl, rfl, pv6.kp.sqT sb, atI_nat' (n := j) (by rw [List.getElem?_map, hz]; rfl) (by simp), sz (by simp), fun u hu => ?_⟩
          obtain ⟨acc, c1, c2, c3⟩ := pv6.step (Kp.new (A := []) (o := .tup [.str s, .int z]) hu) List.not_mem_nil hD2 (by have := tk_len (g := prD) (xs := (oddN ts).zip r) j; rw [List.length_zip] at this; omega) (pr_fd (n := 0) (SqT.of upd_same))
          exact ⟨acc, c1, c2, c3.to (tk_map (List.getElem?_zip_eq_some.mpr ⟨hs, hz⟩)).symm⟩
        rintro H7 pv6
        obtain ⟨acc, c1, c2⟩ := pv6.ex
        have e1 : (((oddN ts).length : Nat) : Int).toNat = (oddN ts).length := rfl
        rw [e1, List.take_of_length_le (by rw [List.length_zip]; omega)] at c2
        refine ⟨D2, acc, rfl, .inl ⟨SqL.of c1, fun u hu => ?_⟩⟩
        have ku := pv6.kp.trans (Kp.new (o := .tup acc) hu)
        obtain ⟨acc2, d1, d2, d3⟩ := pv.step ku List.not_mem_nil hl0 (by rw [List.length_map]; omega) (.tup (n := 1) (SqT.of upd_same) (c2.kp (Kp.new (A := []) hu)))
        have ko : Kp [l] H6 _ := ku.nil.trans (Kp.own d1 rfl (by simp) (o' := .lst (acc2 ++ [.ref u])))
        refine ⟨l, acc2, _, rfl, rfl, d1, d2, ⟨_, _, _, _, _, rfl⟩, d3.to ?_, ko.sqL t3l s4, a4.kp ko⟩
        rw [tk_filT hr e', List.map_append]; rfl
      · have e' : wrong (oddN ts).length rest r = false := by unfold wrong; simpa using e
        exact ⟨⟨_, _, _, _, _, rfl⟩, pv.to (by rw [tk_filF hr e']), s4, a4⟩
    rintro σ H4 ⟨⟨v3, v4, v5, v6, v7, rfl⟩, pv, s4, a4⟩
    obtain ⟨acc, c1, c2⟩ := pv.ex
    rw [a3.length, List.length_map, List.take_length] at c2
    walk_at "st"
    exact ⟨_, rfl, q l acc _ (k1.trans pv.kp) c1 c2 hlH⟩
def sp__law_parities_right (K : PySem.W.Frag) : Sp := fun vs H Q _ => ∃ (s : Addr), vs = [.ref s] ∧ Src H s ∧ ∀ H', Kp [s] H H' → Q (.bl true) H'
theorem ok__law_parities_right (T : Txt K mg A D) : FnOk P w K mg base CX0 10 (A 38) (D 38) ["_law_source_here"] (sp__law_parities_right K) := by
  refine T.F__law_parities_right.ok sc__law_parities_right (fun vs H Q E h => ?_) (fun cdv A' outer s H vs Q E hr h => ?_)
  · obtain ⟨s, rfl, hs, q⟩ := h
    rfl
  · obtain ⟨s, rfl, hs, q⟩ := h
    have hu := hu_of hr
    have G__law_some : FnOk P w K mg base CX0 2 (A 23) (D 23) ["_law_source_here", "_law_names", "_law_most"] (sp__law_some K) := ok__law_some T
    have G__law_draw : FnOk P w K mg base CX0 1 (A 22) (D 22) ["_law_source_here", "_law_limit"] (sp__law_draw K) := ok__law_draw T
    have G__law_parity : FnOk P w K mg base CX0 2 (A 36) (D 36) ["_law_source_here", "_law_names"] (sp__law_parity K) := ok__law_parity T
    have G__law_clauses : FnOk P w K mg base CX0 2 (A 37) (D 37) ["_law_parity_here"] (sp__law_clauses K) := ok__law_clauses T
    have G_bits_of_parities : FnOk P w K mg base (L2.CX P w) 3 (A 9) (D 9) ["theory"] (sp_bits_of_parities K (A 5)) := ok_bits_of_parities T
    have G__law_same : FnOk P w K mg base CX0 9 (A 31) (D 31) ["_law_actual", "_law_expected"] (sp__law_same K) := ok__law_same T
    have GW__law_same : FnW P w K mg base 2 (A 31) (D 31) ["_law_actual", "_law_expected"] (spW__law_same K) := okW__law_same T
    refine ⟨_, (pss_cons (ps_set (i := 1) sc__law_parities_right.nd rfl (Or.inl rfl) (pe_call G__law_some (hr.mono (by decide)) rfl T.g__law_some T.F__law_some.kp T.b__law_some .nil pass0 (pa_cons (pv 0) (pa_cons (pe_lst (pa_cons pe_str (pa_cons pe_str (pa_cons pe_str (pa_cons pe_str (pa_cons pe_str (pa_cons pe_str pa_nil))))))) (pa_cons (pe_call G__law_draw (hr.mono (by decide)) rfl T.g__law_draw T.F__law_draw.kp T.b__law_draw .nil pass0 (pa_cons (pv 0) (pa_cons pe_int pa_nil))) pa_nil)))))
      (pss_cons (ps_set (i := 2) sc__law_parities_right.nd rfl (Or.inl rfl) (pe_lst pa_nil))
      (pss_cons (ps_for PassesOwn.never rfl (pi_range1 rfl T.z_range (pa_cons (pe_call G__law_draw (hr.mono (by decide)) rfl T.g__law_draw T.F__law_draw.kp T.b__law_draw .nil pass0 (pa_cons (pv 0) (pa_cons pe_int pa_nil))) pa_nil)) (pg_name (i := 3) sc__law_parities_right.nd rfl (Or.inl rfl))
        (pss_one (ps_expr (pe_bm PySem.F.plainAttrs_list PySem.F.slot_list_append PySem.F.type_list_append mt_append (pv 2) (pa_cons (pe_call G__law_parity (hr.mono (by decide)) rfl T.g__law_parity T.F__law_parity.kp T.b__law_parity .nil pass0 (pa_cons (pv 0) (pa_cons (pv 1) pa_nil))) pa_nil)))))
      (pss_cons (ps_set (i := 4) sc__law_parities_right.nd rfl (Or.inl rfl) pe_non)
      (pss_cons (ps_set (i := 5) sc__law_parities_right.nd rfl (Or.inl rfl) (pe_lst pa_nil))
      (pss_cons (ps_for PassesOwn.never rfl (pi_range1 rfl T.z_range (pa_cons (pe_callB (id := "len") (cK_len (K := K) rfl) (by rfl) T.z_len (by decide +kernel) (pa_cons (pv 2) pa_nil)) pa_nil)) (pg_name (i := 3) sc__law_parities_right.nd rfl (Or.inl rfl))
        (pss_one (ps_if (pt_cmpR (oP_eq (K := K) rfl hr.units) (pe_ix (xK_list (K := K) rfl) (pv 2) (pv 3) (fun _ _ => rfl)) (pe_tup (pa_cons (pe_tup pa_nil) (pa_cons pe_int (pa_cons pe_int pa_nil)))) (nomark _))
          (pss_one (ps_expr (pe_bm PySem.F.plainAttrs_list PySem.F.slot_list_append PySem.F.type_list_append mt_append (pv 5) (pa_cons (pe_tup pa_nil) pa_nil))))
          (pss_one (ps_if (pt_cmpR op_eq (pe_ix (xK_tup (K := K) rfl) (pe_ix (xK_list (K := K) rfl) (pv 2) (pv 3) (fun _ _ => rfl)) pe_int (fun _ _ => rfl)) pe_int (nomark _))
            (pss_one (ps_expr (pe_bm PySem.F.plainAttrs_list PySem.F.slot_list_extend PySem.F.type_list_extend mt_extend (pv 5) (pa_cons (pe_call G__law_clauses (hr.mono (by decide)) rfl T.g__law_clauses T.F__law_clauses.kp T.b__law_clauses .nil pass0 (pa_cons (pe_ix (xK_list (K := K) rfl) (pv 2) (pv 3) (fun _ _ => rfl)) pa_nil)) pa_nil))))
            (pss_one (ps_if (pt_cmpR op_isN (pv 4) pe_non (nomark _))
              (pss_one (ps_set (i := 4) sc__law_parities_right.nd rfl (Or.inl rfl) (pv 3)))
              pss_nil)))))))
      (pss_cons (ps_set (i := 6) sc__law_parities_right.nd rfl (Or.inl rfl) (pe_tup (pa_cons (pe_callTy (T := "tuple") (cK_tuple (K := K) rfl) (by rfl) T.z_tuple (by decide +kernel) (pa_cons (pv 1) pa_nil)) (pa_cons (pe_callTy (T := "tuple") (cK_tuple (K := K) rfl) (by rfl) T.z_tuple (by decide +kernel) (pa_cons (pv 2) pa_nil)) pa_nil))))
      (pss_cons (ps_try_as (i := 8) rfl rfl sc__law_parities_right.nd rfl rfl ⟨rfl, by decide, .inl T.g_InvalidConstraint⟩ takes0
        (fun W pn xe tk po => (pss_one (ps_set (i := 7) sc__law_parities_right.nd rfl (Or.inl rfl) (pe_callS G_bits_of_parities (hr.mono (by decide)) rfl T.g_bits_of_parities T.F_bits_of_parities.kp T.b_bits_of_parities (fun σ => passAt tk σ) (pa_cons (pv 6) pa_nil)))))
        (fun a oe cls d pn hz hf => (pss_one (ps_ret (pe_and (pe_cmpR op_notN (pv 4) pe_non (nomark _)) (pe_and (pe_callB (id := "isinstance") (call_isF T.E_InvalidConstraint hz hf) (by rfl) T.z_isinstance (by decide +kernel) (pa_cons (pv 8) (pa_cons (pe_glob (v := .ref (A 4)) rfl T.g_ShadowError rfl) pa_nil))) (pe_one (pe_callW GW__law_same (roomW (hr.mono (show 2 ≤ 9 by decide))) rfl T.g__law_same T.F__law_same.kp T.b__law_same (pa_cons (pe_xf T.E_InvalidConstraint.xf T.E_InvalidConstraint.no hz hf (pv 8)) (pa_cons (pv 4) pa_nil))))))))))
      (pss_one (ps_ret (pe_and (pe_cmpR op_isN (pv 4) pe_non (nomark _)) (pe_one (pe_call G__law_same (hr.mono (by decide)) rfl T.g__law_same T.F__law_same.kp T.b__law_same .nil pass0 (pa_cons (pv 7) (pa_cons (pe_tup (pa_cons (pe_ix (xK_tup (K := K) rfl) (pv 6) pe_int (fun _ _ => rfl)) (pa_cons (pe_callTy (T := "tuple") (cK_tuple (K := K) rfl) (by rfl) T.z_tuple (by decide +kernel) (pa_cons (pv 5) pa_nil)) pa_nil))) pa_nil))))))))))))))), ?_⟩
    walk_at "st"
    refine ⟨_, rfl, sz (by simp), fun p0 hp0 => ?_⟩
    have ps0 := ne_src hs hp0
    have k0 : Kp [s] H (upd H p0 (.lst (poolC.map V.str))) := Kp.new hp0
    have s0 : Src (upd H p0 (.lst (poolC.map V.str))) s := hs.kp (Kp.new (A := []) hp0) List.not_mem_nil
    have h0 : (upd H p0 (.lst (poolC.map V.str))) p0 = some (.lst (poolC.map V.str)) := upd_same
    refine ⟨_, rfl, s, 5, rfl, s0, by decide, by decide, fun d2 H3 d20 d21 k3 s3 => ?_⟩
    refine ⟨s, p0, poolC, d2, rfl, s3, SqL.of (k3.get h0 (.inl (by simpa using ps0))), ps0, by decide +kernel, by omega, by omega, fun p ys H4 hp k4 s4 h4 sub yl => ?_⟩
    have k04 : Kp [s] H H4 := k0.trans (k3.trans k4)
    have ps := ne_src s3 hp
    clear k0 k3 k4 hp h0 hp0
    walk_at "st"
    refine ⟨sz (by simp), fun l hl => ?_⟩
    have ls := ne_src s4 hl
    have ls' : l ∉ [s] := by simpa using ls
    have kl : Kp [s] H4 (upd H4 l (.lst [])) := Kp.new hl
    refine seq_forK ⟨_, rfl, s, 6, rfl, s4.kp (Kp.new (A := []) hl) List.not_mem_nil, by decide, by decide, fun n H5 n0 n1 k5 s5 => ⟨n, rfl, by omega, by omega, for_seq walk_range (fun i σ H' => (∃ v3 : Option V, σ = [some (.ref s), some (.ref p), some (.ref l), v3, none, none, none, none, none]) ∧ ∃ qs : List Par, qs.length = i ∧ (∀ q ∈ qs, q.1.length ≤ 6 ∧ q.2.2.natAbs ≤ 1000) ∧ PvF [s] K 3 H4 l (qs.map parD) H' ∧ Src H' s) ⟨⟨_, rfl⟩, [], rfl, (fun _ h => nomatch h), ⟨⟨[], k5.get (a := l) upd_same (.inl ls'), .nil⟩, kl.trans k5⟩, s5⟩ (fun _ _ _ _ _ => trivial) ?_ ?_⟩⟩
    · rintro i w σ H6 H7 hi ⟨⟨v3, rfl⟩, qs, cl, gc, pv, s6⟩ ⟨rfl, rfl⟩
      have hi' : i < n.toNat := hi
      refine gnK ?_
      refine dropK' ?_
      obtain ⟨acc0, c0, _⟩ := pv.ex
      refine ⟨_, rfl, .inl ⟨rfl, _, SqL.of c0⟩, _, rfl, _, rfl, s, p, ys, rfl, s6, SqL.of (pv.kp.get h4 (.inl (by simpa using ps))), ps, by omega, fun v' c H8 k8 s8 g1 g2 f8 => ?_⟩
      obtain ⟨acc, c1, c2, c3⟩ := pv.step k8 ls' hl (by rw [List.length_map]; omega) f8
      exact ⟨l, acc, _, rfl, rfl, c1, c2, ⟨_, rfl⟩, qs ++ [c], by simp [cl], fun x hx => (List.mem_append.mp hx).elim (gc x) fun h => by rw [List.mem_singleton.mp h]; exact ⟨g1, g2⟩, c3.to (by rw [List.map_append]; rfl), s8.kp (Kp.own (A := [l]) c1 rfl (by simp)) (by simpa using Ne.symm ls)⟩
    rintro σ H6 ⟨⟨v3, rfl⟩, qs, cl, gc, pv, s6⟩
    obtain ⟨acc, c1, c2⟩ := pv.ex
    have ql : qs.length ≤ 6 := by omega
    have al : acc.length = qs.length := by rw [c2.length, List.length_map]
    have h6p := pv.kp.get h4 (.inl (by simpa using ps))
    have k06 := k04.trans pv.kp
    have cs : ∀ {p : Par}, p ∈ qs → (clsP p).length ≤ 64 := fun {p} hp => by
      unfold clsP
      split
      · exact clsOf_small (gc p hp).1
      · decide
    clear pv k04 h4 kl hl
    walk_at "st"
    walk_at "st"
    refine ⟨sz (by simp), fun c hc => ?_⟩
    have pv0 : PvF [] K 2 H6 c [] (upd H6 c (.lst [])) := pvF_0 hc
    dsimp only
    refine gnK ?_
    refine seq_forK ?_
    refine ⟨_, rfl, _, qs.length, rfl, .inl ⟨_, SqL.of (pv0.kp.get c1 (.inl List.not_mem_nil)), al.symm⟩, _, rfl, by omega, by omega, for_seq walk_range (fun i σ H' => (∃ (v3 : Option V) (bv : V), σ = [some (.ref s), some (.ref p), some (.ref l), v3, some bv, some (.ref c), none, none, none] ∧ BadAt qs i bv) ∧ PvF [] K 2 H6 c ((((qs.take i).filter okP).flatMap clsP).map prsD) H') ⟨⟨_, _, rfl, .inl ⟨rfl, fun j q h => absurd h (Nat.not_lt_zero _)⟩⟩, pv0⟩ (fun _ _ _ _ _ => trivial) ?_ ?_⟩
    · rintro i w σ H7 H8 hi ⟨⟨v3, bv, rfl, bad⟩, pv⟩ ⟨rfl, rfl⟩
      have hi' : i < qs.length := hi
      obtain ⟨r, hr⟩ : ∃ r, qs[i]? = some r := ⟨_, List.getElem?_eq_getElem hi'⟩
      have rm := List.mem_of_getElem? hr
      obtain ⟨rw', hrw, fr0⟩ := c2.atm' hr
      have fr := fr0.kp pv.kp
      have l8 := pv.kp.get c1 (.inl List.not_mem_nil)
      have fl : (((qs.take i).filter okP).flatMap clsP).length ≤ 64 * 10 := by
        rw [List.flatMap]
        have h1 := flatten_le (k := 64) (xss := ((qs.take i).filter okP).map clsP) fun xs hx => by
          obtain ⟨p', hp', rfl⟩ := List.mem_map.mp hx
          exact cs (List.mem_of_mem_take (List.mem_filter.mp hp').1)
        have h2 := List.length_filter_le okP (qs.take i)
        rw [List.length_map] at h1
        rw [List.length_take] at h2
        omega
      refine gnK ?_
      refine if_anK ?_
      refine ⟨_, rfl, _, rfl, l, _, _, rw', rfl, rfl, SqL.of l8, atI_nat' hrw (by simp), sz (by simp), fun t0 n0 => ⟨sz (by simp), fun t1 n1 => ?_⟩⟩
      have kt0 := Kp.new (A := []) (o := .tup []) n0
      have kt1 := Kp.new (A := []) (o := .tup [.ref t0, .int 0, .int 1]) n1
      have kt := kt0.trans kt1
      have fn : Fd K (upd (upd H8 t0 (.tup [])) t1 (.tup [.ref t0, .int 0, .int 1])) 2 (.ref t1) (.tuple [.tuple [], .int 0, .int 1]) := .tup (SqT.of upd_same) (.cons (.tup (kt1.sqT (SqT.of upd_same)) .nil) (.cons (.int _) (.cons (.int _) .nil)))
      generalize upd (upd H8 t0 (.tup [])) t1 (.tup [.ref t0, .int 0, .int 1]) = H9 at kt fn
      have pv9 := pv.skip kt List.not_mem_nil
      have l9 := kt.get l8 (.inl List.not_mem_nil)
      have fr9 := fr.kp kt
      refine ⟨_, _, fr9.dp, fn.dp, fr9.pln (by decide), fn.pln (by decide), _, rfl, ?_⟩
      rw [show PyData.eqv (parD r) _ = decide (r = never) from eqv_never r]
      refine ite2 (fun e => ?_) (fun e => ?_)
      · have er : r = never := by simpa using e
        have ok : okP r = true := by unfold okP; rw [decide_eq_true er, Bool.or_true]
        refine dropK' ?_
        obtain ⟨acc0, c0, _⟩ := pv9.ex
        refine ⟨_, rfl, .inl ⟨rfl, _, SqL.of c0⟩, sz (by simp), fun u hu => ?_⟩
        obtain ⟨acc, d1, d2, d3⟩ := pv9.step (Kp.new (A := []) (o := .tup []) hu) List.not_mem_nil hc (by rw [List.length_map]; omega) (.tup (n := 1) (SqT.of upd_same) .nil)
        refine ⟨c, acc, _, rfl, rfl, d1, d2, ⟨_, _, rfl, bad.ok hr ok⟩, d3.to ?_⟩
        rw [tk_okT hr ok, List.map_append, er]; rfl
      have er : r ≠ never := by simpa using e
      refine if_anK ?_
      obtain ⟨ra, rx, rfl, sra, fx⟩ := parD_inv fr9
      refine ⟨_, rfl, _, rfl, l, _, _, _, rfl, rfl, SqL.of l9, atI_nat' hrw (by simp), ra, _, 1, _, rfl, rfl, sra, rfl, rfl, _, rfl, ?_⟩
      refine ite2 (fun e => ?_) (fun e => ?_)
      · have e2 : r.2.1 = 2 := by simpa using e
        have ok : okP r = true := by unfold okP; rw [decide_eq_true e2]; rfl
        refine dropK' ?_
        obtain ⟨acc0, c0, _⟩ := pv9.ex
        refine ⟨_, rfl, .inl ⟨rfl, _, SqL.of c0⟩, _, rfl, _, rfl, l, _, _, _, rfl, rfl, SqL.of l9, atI_nat' hrw (by simp), _, r, rfl, fr9, (gc r rm).1, (gc r rm).2, fun b xs H10 k10 hb fxs nb => ?_⟩
        obtain ⟨acc, d1, d2, d3⟩ := pv9.ext k10 List.not_mem_nil hc (by have := clsOf_small (rest := r.2.2) (gc r rm).1; rw [List.length_map, List.length_map]; omega) fxs
        refine ⟨c, b, acc, xs, rfl, rfl, d1, hb, d2, ⟨_, _, rfl, bad.ok hr ok⟩, d3.to ?_⟩
        rw [tk_okT hr ok, List.map_append, clsP, if_pos e2]
      · have e2 : r.2.1 ≠ 2 := by simpa using e
        have ok : okP r = false := by unfold okP; rw [decide_eq_false e2, decide_eq_false er]; rfl
        refine if_anK ?_
        refine ⟨_, rfl, rfl, _, rfl, ?_⟩
        refine ite2 (fun e => ?_) (fun e => ?_)
        · have eb : bv = .non := by simpa using e
          subst eb
          refine setK ?_
          refine ⟨_, rfl, ⟨_, _, rfl, ?_⟩, pv9.to (by rw [tk_okF hr ok])⟩
          have := bad.no hr ok
          simpa using this
        · have eb : bv ≠ .non := by simpa using e
          exact ⟨⟨_, _, rfl, bad.old eb⟩, pv9.to (by rw [tk_okF hr ok])⟩
    rintro σ H7 ⟨⟨v3', bv, rfl, bad⟩, pv⟩
    have e1 : ((qs.length : Nat) : Int).toNat = qs.length := rfl
    rw [e1] at bad pv
    rw [List.take_length] at pv
    have l7 := pv.kp.get c1 (.inl List.not_mem_nil)
    have p7 := pv.kp.get h6p (.inl List.not_mem_nil)
    walk_at "st"
    refine ⟨_, rfl, p, _, rfl, .inl ⟨SqL.of p7, fun u hu => ?_⟩⟩
    have ku := Kp.new (A := []) (o := .tup (ys.map V.str)) hu
    refine ⟨_, rfl, l, acc, rfl, .inl ⟨SqL.of (ku.get l7 (.inl List.not_mem_nil)), fun u2 hu2 => ⟨sz (by simp), fun t ht => ?_⟩⟩⟩
    have ku2 := Kp.new (A := []) (o := .tup acc) hu2
    have kt := Kp.new (A := []) (o := .tup [.ref u, .ref u2]) ht
    have kk := ku.trans (ku2.trans kt)
    have fth : Fd K (upd (upd (upd H7 u (.tup (ys.map V.str))) u2 (.tup acc)) t (.tup [.ref u, .ref u2])) 5 (.ref t) (thD ys (qs.map parD)) := thD_mk (n := 3) (SqT.of upd_same) ((ku2.trans kt).sqT (SqT.of upd_same)) (kt.sqT (SqT.of upd_same)) (c2.kp (pv.kp.trans kk))
    have st := SqT.of (K := K) (H := upd (upd (upd H7 u (.tup (ys.map V.str))) u2 (.tup acc)) t (.tup [.ref u, .ref u2])) (a := t) upd_same
    have su := (ku2.trans kt).sqT (SqT.of (K := K) (a := u) upd_same)
    generalize upd (upd (upd H7 u (.tup (ys.map V.str))) u2 (.tup acc)) t (.tup [.ref u, .ref u2]) = H8 at kk fth st su
    have pv8 := pv.skip kk List.not_mem_nil
    have kH8 : Kp [s] H H8 := k06.trans pv8.kp.nil
    refine ⟨_, rfl, .ref t, ys, qs, rfl, fth, by omega, gc, fun k r hr no hall d H9 k9 hd => ?_, fun hall v' H9 k9 f9 => ?_⟩
    · have eb := bad.at hr no hall
      subst eb
      refine ⟨true, T.x_InvalidConstraint_InvalidConstraint, fun _ a ha => ?_, fun q => nomatch q⟩
      refine retK ?_
      refine ⟨_, rfl, rfl, true, congrArg V.bl (by simp), iteT ?_⟩
      refine ⟨_, rfl, _, _, true, d, _, rfl, rfl, rfl, upd_same, .own _, T.k_InvalidConstraint_ShadowError, true, rfl, iteT ?_⟩
      refine ⟨_, rfl, rfl, rfl, d, _, .int (k : Int), rfl, upd_same, by simp [List.lookup], _, rfl, (k : Int), rfl, ?_⟩
      exact q _ (kH8.trans (k9.nil.trans (Kp.new hd)))
    · have eb := bad.none hall
      subst eb
      rw [flat_ok hall] at pv8
      have pv9 := pv8.skip k9 List.not_mem_nil
      obtain ⟨acc9, d1, d2⟩ := pv9.ex
      refine gnK ?_
      dsimp only
      refine retK ?_
      refine ⟨_, rfl, rfl, true, congrArg V.bl (by simp), iteT ?_⟩
      refine ⟨_, rfl, _, rfl, t, _, 0, _, rfl, rfl, k9.sqT st, rfl, _, rfl, c, acc9, rfl, .inl ⟨SqL.of d1, fun u9 hu9 => ⟨sz (by simp), fun z hz => ?_⟩⟩⟩
      have ku9 := Kp.new (A := []) (o := .tup acc9) hu9
      have kz := Kp.new (A := []) (o := .tup [.ref u, .ref u9]) hz
      have kk9 := ku9.trans kz
      refine ⟨v', .ref z, _, rfl, (f9.kp kk9).up, thD_mk (n := 4) (SqT.of upd_same) ((k9.trans kk9).sqT su) (kz.sqT (SqT.of upd_same)) (d2.kp kk9).up.up, fun H10 k10 => q _ (kH8.trans ((k9.trans (kk9.trans k10)).nil))⟩
def sp_law (K : PySem.W.Frag) : Sp := fun vs H Q _ => ∃ (a : Addr) (ns : List Int), vs = [.ref a] ∧ SqL K H a (ns.map V.int) ∧ ns.length ≤ 63 ∧ ∀ H', Q (.bl true) H'
theorem ok_law (T : Txt K mg A D) : FnOk P w K mg base CX0 11 (A 39) (D 39) ["_law_script"] (sp_law K) := by
  refine T.F_law.ok sc_law (fun vs H Q E h => ?_) (fun cdv A' outer s H vs Q E hr h => ?_)
  · obtain ⟨a, ns, rfl, hS, hl, q⟩ := h
    rfl
  · obtain ⟨a, ns, rfl, hS, hl, q⟩ := h
    have hu := hu_of hr
    have G__law_bits : FnOk P w K mg base CX0 3 (A 29) (D 29) ["_law_source_here", "_law_most"] (sp__law_bits K) := ok__law_bits T
    have G__law_source : FnOk P w K mg base CX0 1 (A 21) (D 21) ["_law_script", "_law_k"] (sp__law_source K) := ok__law_source T
    have G__law_same : FnOk P w K mg base CX0 9 (A 31) (D 31) ["_law_actual", "_law_expected"] (sp__law_same K) := ok__law_same T
    have G__law_tables : FnOk P w K mg base CX0 2 (A 33) (D 33) ["_law_theory_here"] (sp__law_tables K) := ok__law_tables T
    have G_rows_of_bits : FnOk P w K mg base CX0 3 (A 15) (D 15) ["theory"] (sp_rows_of_bits K) := ok_rows_of_bits T
    have G__law_machines : FnOk P w K mg base CX0 2 (A 34) (D 34) ["_law_theory_here"] (sp__law_machines K) := ok__law_machines T
    have G_words_of_bits : FnOk P w K mg base CX0 3 (A 19) (D 19) ["theory"] (sp_words_of_bits K) := ok_words_of_bits T
    have G__law_theory : FnOk P w K mg base CX0 4 (A 26) (D 26) ["_law_source_here"] (sp__law_theory K) := ok__law_theory T
    have G__law_lines : FnOk P w K mg base CX0 1 (A 35) (D 35) ["_law_theory_here"] (sp__law_lines K) := ok__law_lines T
    have G_lines_of_steps : FnOk P w K mg base CX0 2 (A 12) (D 12) ["theory"] (sp_lines_of_steps K) := ok_lines_of_steps T
    have G__law_parities_right : FnOk P w K mg base CX0 10 (A 38) (D 38) ["_law_source_here"] (sp__law_parities_right K) := ok__law_parities_right T
    refine ⟨_, (pss_cons (ps_set (i := 1) sc_law.nd rfl (Or.inl rfl) (pe_call G__law_bits (hr.mono (by decide)) rfl T.g__law_bits T.F__law_bits.kp T.b__law_bits .nil pass0 (pa_cons (pe_call G__law_source (hr.mono (by decide)) rfl T.g__law_source T.F__law_source.kp T.b__law_source .nil pass0 (pa_cons (pv 0) (pa_cons pe_int pa_nil))) (pa_cons pe_int pa_nil))))
      (pss_cons (ps_if (pt_not (pt_val (pe_call G__law_same (hr.mono (by decide)) rfl T.g__law_same T.F__law_same.kp T.b__law_same .nil pass0 (pa_cons (pe_call G_rows_of_bits (hr.mono (by decide)) rfl T.g_rows_of_bits T.F_rows_of_bits.kp T.b_rows_of_bits .nil pass0 (pa_cons (pv 1) pa_nil)) (pa_cons (pe_call G__law_tables (hr.mono (by decide)) rfl T.g__law_tables T.F__law_tables.kp T.b__law_tables .nil pass0 (pa_cons (pv 1) pa_nil)) pa_nil)))))
        (pss_one (ps_ret pe_bl))
        pss_nil)
      (pss_cons (ps_if (pt_not (pt_val (pe_call G__law_same (hr.mono (by decide)) rfl T.g__law_same T.F__law_same.kp T.b__law_same .nil pass0 (pa_cons (pe_call G_words_of_bits (hr.mono (by decide)) rfl T.g_words_of_bits T.F_words_of_bits.kp T.b_words_of_bits .nil pass0 (pa_cons (pv 1) pa_nil)) (pa_cons (pe_call G__law_machines (hr.mono (by decide)) rfl T.g__law_machines T.F__law_machines.kp T.b__law_machines .nil pass0 (pa_cons (pv 1) pa_nil)) pa_nil)))))
        (pss_one (ps_ret pe_bl))
        pss_nil)
      (pss_cons (ps_set (i := 1) sc_law.nd rfl (Or.inl rfl) (pe_call G__law_theory (hr.mono (by decide)) rfl T.g__law_theory T.F__law_theory.kp T.b__law_theory .nil pass0 (pa_cons (pe_call G__law_source (hr.mono (by decide)) rfl T.g__law_source T.F__law_source.kp T.b__law_source .nil pass0 (pa_cons (pv 0) (pa_cons pe_int pa_nil))) pa_nil)))
      (pss_cons (ps_if (pt_not (pt_val (pe_call G__law_same (hr.mono (by decide)) rfl T.g__law_same T.F__law_same.kp T.b__law_same .nil pass0 (pa_cons (pe_call G_lines_of_steps (hr.mono (by decide)) rfl T.g_lines_of_steps T.F_lines_of_steps.kp T.b_lines_of_steps .nil pass0 (pa_cons (pv 1) pa_nil)) (pa_cons (pe_call G__law_lines (hr.mono (by decide)) rfl T.g__law_lines T.F__law_lines.kp T.b__law_lines .nil pass0 (pa_cons (pv 1) pa_nil)) pa_nil)))))
        (pss_one (ps_ret pe_bl))
        pss_nil)
      (pss_one (ps_ret (pe_and (pe_call G__law_parities_right (hr.mono (by decide)) rfl T.g__law_parities_right T.F__law_parities_right.kp T.b__law_parities_right .nil pass0 (pa_cons (pe_call G__law_source (hr.mono (by decide)) rfl T.g__law_source T.F__law_source.kp T.b__law_source .nil pass0 (pa_cons (pv 0) (pa_cons pe_int pa_nil))) pa_nil)) (pe_one (pe_call G__law_parities_right (hr.mono (by decide)) rfl T.g__law_parities_right T.F__law_parities_right.kp T.b__law_parities_right .nil pass0 (pa_cons (pe_call G__law_source (hr.mono (by decide)) rfl T.g__law_source T.F__law_source.kp T.b__law_source .nil pass0 (pa_cons (pv 0) (pa_cons pe_int pa_nil))) pa_nil))))))))))), ?_⟩
    have src : ∀ {H' : Hp}, Kp [] H H' → SqL K H' a (ns.map V.int) := fun k => k.sqL List.not_mem_nil hS
    walk_at "st"
    refine ⟨_, rfl, a, ns, 0, rfl, hS, hl, fun p H1 hp k1 s1 => ⟨p, rfl, s1, fun v nm cls H2 k2 s2 l1 l2 gc fv => ?_⟩⟩
    have k02 : Kp [] H H2 := Kp.back hp (k1.nil.trans k2)
    walk_at "st"
    refine ⟨_, rfl, v, nm, cls, rfl, fv, l1, by omega, gc, fun v1 H3 k3 f3 => ⟨_, rfl, v, nm, cls, rfl, fv.kp k3, l1, by omega, gc, fun v2 H4 k4 f4 => ⟨v1, v2, _, rfl, (f3.kp k4).up, f4.up, fun H5 k5 => ⟨_, rfl, ?_⟩⟩⟩⟩
    refine iteF ?_
    have k25 := k3.trans (k4.trans k5)
    have fv5 := fv.kp k25
    walk_at "st"
    refine ⟨_, rfl, v, nm, cls, rfl, fv5, by omega, gc, fun v1 H6 k6 f6 => ⟨_, rfl, v, nm, cls, rfl, fv5.kp k6, by omega, gc, fun v2 H7 k7 f7 => ⟨v1, v2, _, rfl, f6.kp k7, f7, fun H8 k8 => ⟨_, rfl, ?_⟩⟩⟩⟩
    refine iteF ?_
    have k08 := k02.trans (k25.trans (k6.trans (k7.trans k8)))
    clear fv fv5 f3 f4 f6 f7
    walk_at "st"
    refine ⟨_, rfl, a, ns, 1, rfl, src k08, hl, fun p H9 hp9 k9 s9 => ⟨p, rfl, s9, fun v nm cs H10 k10 s10 l1 fv => ?_⟩⟩
    have k0A : Kp [] H H10 := k08.trans (Kp.back hp9 (k9.nil.trans k10))
    walk_at "st"
    refine ⟨_, rfl, v, nm, cs, rfl, fv, by omega, fun v1 H11 k11 f11 => ⟨_, rfl, v, nm, cs, rfl, fv.kp k11, by omega, fun v2 H12 k12 f12 => ⟨v1, v2, _, rfl, (f11.kp k12).up, f12.up, fun H13 k13 => ⟨_, rfl, ?_⟩⟩⟩⟩
    refine iteF ?_
    have k0D := k0A.trans (k11.trans (k12.trans k13))
    walk_at "st"
    refine ⟨_, rfl, a, ns, 2, rfl, src k0D, hl, fun p H14 hp14 k14 s14 => ⟨p, rfl, s14, fun H15 k15 => ⟨true, rfl, iteT ?_⟩⟩⟩
    have k0F : Kp [] H H15 := k0D.trans (Kp.back hp14 (k14.nil.trans k15))
    exact ⟨_, rfl, a, ns, 3, rfl, src k0F, hl, fun p H16 hp16 k16 s16 => ⟨p, rfl, s16, fun H17 k17 => q _⟩⟩
end
theorem all_mk {l : PySem.W.OpenLaw} {w : World} {K : PySem.W.Frag} {h : Heap} {mg : Str → Option Value} {fa : Addr} (X : K.In h) (G : h.Ns mainGlobals mg) (hfa : mg "law" = some (.ref fa))
    {f4 : Addr} (a4 : PySem.W.nsIn K mainGlobals "ShadowError" = some (some (.ref f4)))
    {f5 : Addr} (a5 : PySem.W.nsIn K mainGlobals "InvalidConstraint" = some (some (.ref f5)))
    {nm5 qn5 : Str} {N5 : Addr} {bs5 bm5 : List Value} {sn5 : List Str} {sub5 : List Value} {ab5 : Bool} {col5 : Option Bool} {dd5 : Option Addr} {u0_5 u1_5 u2_5 u3_5 u5_5 : Option Value}
    {f1100 : Addr} {oc1100 kV1100 dc1100 pm1100 cd1100 ct1100 : Value} {od1100 an1100 : Option Addr} {sl1100 : Array (Option Value)}
    (xL_5 : K.lookup f5 = some (excClassObj nm5 qn5 f5 N5 bs5 bm5 true sn5 sub5 ab5 col5 dd5 u0_5 u1_5 u2_5 u3_5 u5_5 "ValueError.__new__"))
    (rv_5 : PySem.HandSPX.refsVE bm5 = true)
    (sa_5 : PySem.W.findIn K (.ref f5) "__setattr__" = some (some (.builtin "object.__setattr__")))
    (ga_5 : PySem.W.findIn K (.ref f5) "__getattribute__" = some (some (.builtin "BaseException.__getattribute__")))
    (gg_5 : PySem.W.findIn K (.ref f5) "__getattr__" = some none)
    (no_5 : PySem.W.findIn K (.ref f5) "index" = some none)
    (iC_5 : PySem.W.findIn K (.ref f5) "__init__" = some (some (.ref f1100)))
    (tI_5 : PySem.W.typeIn K (.ref f1100) = some (.type "function"))
    (kC_5 : PySem.W.keepIn K (.ref f5) = true)
    (eC_5 : PySem.W.subIn K (.ref f5) (.type "BaseException") = some true)
    (tC_5 : PySem.W.typeIn K (.ref f5) = some (.type "type"))
    (hC_5 : PySem.W.hasDictIn K f5 = true)
    (isC_5 : PySem.W.isClsIn K f5 = true)
    (isa_5 : PySem.W.findIn K (.ref f5) "__class__" = some (some (.builtin "object.__class__")))
    (isn_5 : PySem.W.specialIn K (.builtin "object.__class__") "__get__" = some (some (.builtin "getset_descriptor.__get__")))
    (ist_5 : PySem.W.takesIn K (.builtin "object.__class__") = some true)
    (ism_5 : PySem.W.mroIn K f5 (.type "object") = some true)
    (l1100 : K.lookup f1100 = some ⟨oc1100, od1100, .func (PySem.W.fnOf "__init__" "InvalidConstraint.__init__" (defArgs (topM 5 0)) (defBody (topM 5 0)) (defScope (topM 5 0)) .none kV1100 dc1100 pm1100 an1100 cd1100 ct1100), sl1100⟩)
    (c1100 : PySem.W.codeIn K cd1100 "InvalidConstraint.__init__" = true)
    (k1100 : PySem.W.keepIn K (.ref f1100) = true)
    (sb_5_4 : PySem.W.subIn K (.ref f5) (.ref f4) = some true) (ki_5_4 : PySem.W.kitOne K (.ref f5) (.ref f4) = some true)
    (eC_4 : PySem.W.subIn K (.ref f4) (.type "BaseException") = some true)
    (tC_4 : PySem.W.typeIn K (.ref f4) = some (.type "type"))
    (hC_4 : PySem.W.hasDictIn K f4 = true)
    (sb_5_5 : PySem.W.subIn K (.ref f5) (.ref f5) = some true) (ki_5_5 : PySem.W.kitOne K (.ref f5) (.ref f5) = some true)
    (kv_5 : PySem.W.kitOne K (.ref f5) (.type "ValueError") = some true)
    (rd_4 : PySem.W.readsIn K f4 (.type "type") = true)
    (sg_4 : PySem.W.specialIn K (.ref f4) "__getattribute__" = some (some (.builtin "type.__getattribute__")))
    (it_4 : PySem.W.findCls K (.ref f4) (.type "type") "__init__" = some (.val (.builtin "ValueError.__init__")))
    {oc1 kV1 dc1 pm1 cd1 ct1 : Value} {od1 an1 : Option Addr} {sl1 : Array (Option Value)} {f1 : Addr}
    (a1 : PySem.W.nsIn K mainGlobals "bit_rows" = some (some (.ref f1))) (l1 : K.lookup f1 = some ⟨oc1, od1, .func (PySem.W.fnOf "bit_rows" "bit_rows" (defArgs (topS 1)) (defBody (topS 1)) (defScope (topS 1)) .none kV1 dc1 pm1 an1 cd1 ct1), sl1⟩) (c1 : PySem.W.codeIn K cd1 "bit_rows" = true) (k1 : PySem.W.keepIn K (.ref f1) = true)
    {oc2 kV2 dc2 pm2 cd2 ct2 : Value} {od2 an2 : Option Addr} {sl2 : Array (Option Value)} {f2 : Addr}
    (a2 : PySem.W.nsIn K mainGlobals "is_kept" = some (some (.ref f2))) (l2 : K.lookup f2 = some ⟨oc2, od2, .func (PySem.W.fnOf "is_kept" "is_kept" (defArgs (topS 2)) (defBody (topS 2)) (defScope (topS 2)) .none kV2 dc2 pm2 an2 cd2 ct2), sl2⟩) (c2 : PySem.W.codeIn K cd2 "is_kept" = true) (k2 : PySem.W.keepIn K (.ref f2) = true)
    {oc8 kV8 dc8 pm8 cd8 ct8 : Value} {od8 an8 : Option Addr} {sl8 : Array (Option Value)} {f8 : Addr}
    (a8 : PySem.W.nsIn K mainGlobals "clauses_of" = some (some (.ref f8))) (l8 : K.lookup f8 = some ⟨oc8, od8, .func (PySem.W.fnOf "clauses_of" "clauses_of" (defArgs (topS 8)) (defBody (topS 8)) (defScope (topS 8)) .none kV8 dc8 pm8 an8 cd8 ct8), sl8⟩) (c8 : PySem.W.codeIn K cd8 "clauses_of" = true) (k8 : PySem.W.keepIn K (.ref f8) = true)
    {oc9 kV9 dc9 pm9 cd9 ct9 : Value} {od9 an9 : Option Addr} {sl9 : Array (Option Value)} {f9 : Addr}
    (a9 : PySem.W.nsIn K mainGlobals "bits_of_parities" = some (some (.ref f9))) (l9 : K.lookup f9 = some ⟨oc9, od9, .func (PySem.W.fnOf "bits_of_parities" "bits_of_parities" (defArgs (topS 9)) (defBody (topS 9)) (defScope (topS 9)) .none kV9 dc9 pm9 an9 cd9 ct9), sl9⟩) (c9 : PySem.W.codeIn K cd9 "bits_of_parities" = true) (k9 : PySem.W.keepIn K (.ref f9) = true)
    {oc11 kV11 dc11 pm11 cd11 ct11 : Value} {od11 an11 : Option Addr} {sl11 : Array (Option Value)} {f11 : Addr}
    (a11 : PySem.W.nsIn K mainGlobals "line_of" = some (some (.ref f11))) (l11 : K.lookup f11 = some ⟨oc11, od11, .func (PySem.W.fnOf "line_of" "line_of" (defArgs (topS 11)) (defBody (topS 11)) (defScope (topS 11)) .none kV11 dc11 pm11 an11 cd11 ct11), sl11⟩) (c11 : PySem.W.codeIn K cd11 "line_of" = true) (k11 : PySem.W.keepIn K (.ref f11) = true)
    {oc12 kV12 dc12 pm12 cd12 ct12 : Value} {od12 an12 : Option Addr} {sl12 : Array (Option Value)} {f12 : Addr}
    (a12 : PySem.W.nsIn K mainGlobals "lines_of_steps" = some (some (.ref f12))) (l12 : K.lookup f12 = some ⟨oc12, od12, .func (PySem.W.fnOf "lines_of_steps" "lines_of_steps" (defArgs (topS 12)) (defBody (topS 12)) (defScope (topS 12)) .none kV12 dc12 pm12 an12 cd12 ct12), sl12⟩) (c12 : PySem.W.codeIn K cd12 "lines_of_steps" = true) (k12 : PySem.W.keepIn K (.ref f12) = true)
    {oc14 kV14 dc14 pm14 cd14 ct14 : Value} {od14 an14 : Option Addr} {sl14 : Array (Option Value)} {f14 : Addr}
    (a14 : PySem.W.nsIn K mainGlobals "table_of" = some (some (.ref f14))) (l14 : K.lookup f14 = some ⟨oc14, od14, .func (PySem.W.fnOf "table_of" "table_of" (defArgs (topS 14)) (defBody (topS 14)) (defScope (topS 14)) .none kV14 dc14 pm14 an14 cd14 ct14), sl14⟩) (c14 : PySem.W.codeIn K cd14 "table_of" = true) (k14 : PySem.W.keepIn K (.ref f14) = true)
    {oc15 kV15 dc15 pm15 cd15 ct15 : Value} {od15 an15 : Option Addr} {sl15 : Array (Option Value)} {f15 : Addr}
    (a15 : PySem.W.nsIn K mainGlobals "rows_of_bits" = some (some (.ref f15))) (l15 : K.lookup f15 = some ⟨oc15, od15, .func (PySem.W.fnOf "rows_of_bits" "rows_of_bits" (defArgs (topS 15)) (defBody (topS 15)) (defScope (topS 15)) .none kV15 dc15 pm15 an15 cd15 ct15), sl15⟩) (c15 : PySem.W.codeIn K cd15 "rows_of_bits" = true) (k15 : PySem.W.keepIn K (.ref f15) = true)
    {oc18 kV18 dc18 pm18 cd18 ct18 : Value} {od18 an18 : Option Addr} {sl18 : Array (Option Value)} {f18 : Addr}
    (a18 : PySem.W.nsIn K mainGlobals "machine_of" = some (some (.ref f18))) (l18 : K.lookup f18 = some ⟨oc18, od18, .func (PySem.W.fnOf "machine_of" "machine_of" (defArgs (topS 18)) (defBody (topS 18)) (defScope (topS 18)) .none kV18 dc18 pm18 an18 cd18 ct18), sl18⟩) (c18 : PySem.W.codeIn K cd18 "machine_of" = true) (k18 : PySem.W.keepIn K (.ref f18) = true)
    {oc19 kV19 dc19 pm19 cd19 ct19 : Value} {od19 an19 : Option Addr} {sl19 : Array (Option Value)} {f19 : Addr}
    (a19 : PySem.W.nsIn K mainGlobals "words_of_bits" = some (some (.ref f19))) (l19 : K.lookup f19 = some ⟨oc19, od19, .func (PySem.W.fnOf "words_of_bits" "words_of_bits" (defArgs (topS 19)) (defBody (topS 19)) (defScope (topS 19)) .none kV19 dc19 pm19 an19 cd19 ct19), sl19⟩) (c19 : PySem.W.codeIn K cd19 "words_of_bits" = true) (k19 : PySem.W.keepIn K (.ref f19) = true)
    {oc21 kV21 dc21 pm21 cd21 ct21 : Value} {od21 an21 : Option Addr} {sl21 : Array (Option Value)} {f21 : Addr}
    (a21 : PySem.W.nsIn K mainGlobals "_law_source" = some (some (.ref f21))) (l21 : K.lookup f21 = some ⟨oc21, od21, .func (PySem.W.fnOf "_law_source" "_law_source" (defArgs (topS 21)) (defBody (topS 21)) (defScope (topS 21)) .none kV21 dc21 pm21 an21 cd21 ct21), sl21⟩) (c21 : PySem.W.codeIn K cd21 "_law_source" = true) (k21 : PySem.W.keepIn K (.ref f21) = true)
    {oc22 kV22 dc22 pm22 cd22 ct22 : Value} {od22 an22 : Option Addr} {sl22 : Array (Option Value)} {f22 : Addr}
    (a22 : PySem.W.nsIn K mainGlobals "_law_draw" = some (some (.ref f22))) (l22 : K.lookup f22 = some ⟨oc22, od22, .func (PySem.W.fnOf "_law_draw" "_law_draw" (defArgs (topS 22)) (defBody (topS 22)) (defScope (topS 22)) .none kV22 dc22 pm22 an22 cd22 ct22), sl22⟩) (c22 : PySem.W.codeIn K cd22 "_law_draw" = true) (k22 : PySem.W.keepIn K (.ref f22) = true)
    {oc23 kV23 dc23 pm23 cd23 ct23 : Value} {od23 an23 : Option Addr} {sl23 : Array (Option Value)} {f23 : Addr}
    (a23 : PySem.W.nsIn K mainGlobals "_law_some" = some (some (.ref f23))) (l23 : K.lookup f23 = some ⟨oc23, od23, .func (PySem.W.fnOf "_law_some" "_law_some" (defArgs (topS 23)) (defBody (topS 23)) (defScope (topS 23)) .none kV23 dc23 pm23 an23 cd23 ct23), sl23⟩) (c23 : PySem.W.codeIn K cd23 "_law_some" = true) (k23 : PySem.W.keepIn K (.ref f23) = true)
    {oc24 kV24 dc24 pm24 cd24 ct24 : Value} {od24 an24 : Option Addr} {sl24 : Array (Option Value)} {f24 : Addr}
    (a24 : PySem.W.nsIn K mainGlobals "_law_bound" = some (some (.ref f24))) (l24 : K.lookup f24 = some ⟨oc24, od24, .func (PySem.W.fnOf "_law_bound" "_law_bound" (defArgs (topS 24)) (defBody (topS 24)) (defScope (topS 24)) .none kV24 dc24 pm24 an24 cd24 ct24), sl24⟩) (c24 : PySem.W.codeIn K cd24 "_law_bound" = true) (k24 : PySem.W.keepIn K (.ref f24) = true)
    {oc25 kV25 dc25 pm25 cd25 ct25 : Value} {od25 an25 : Option Addr} {sl25 : Array (Option Value)} {f25 : Addr}
    (a25 : PySem.W.nsIn K mainGlobals "_law_constraint" = some (some (.ref f25))) (l25 : K.lookup f25 = some ⟨oc25, od25, .func (PySem.W.fnOf "_law_constraint" "_law_constraint" (defArgs (topS 25)) (defBody (topS 25)) (defScope (topS 25)) .none kV25 dc25 pm25 an25 cd25 ct25), sl25⟩) (c25 : PySem.W.codeIn K cd25 "_law_constraint" = true) (k25 : PySem.W.keepIn K (.ref f25) = true)
    {oc26 kV26 dc26 pm26 cd26 ct26 : Value} {od26 an26 : Option Addr} {sl26 : Array (Option Value)} {f26 : Addr}
    (a26 : PySem.W.nsIn K mainGlobals "_law_theory" = some (some (.ref f26))) (l26 : K.lookup f26 = some ⟨oc26, od26, .func (PySem.W.fnOf "_law_theory" "_law_theory" (defArgs (topS 26)) (defBody (topS 26)) (defScope (topS 26)) .none kV26 dc26 pm26 an26 cd26 ct26), sl26⟩) (c26 : PySem.W.codeIn K cd26 "_law_theory" = true) (k26 : PySem.W.keepIn K (.ref f26) = true)
    {oc27 kV27 dc27 pm27 cd27 ct27 : Value} {od27 an27 : Option Addr} {sl27 : Array (Option Value)} {f27 : Addr}
    (a27 : PySem.W.nsIn K mainGlobals "_law_bit_rows" = some (some (.ref f27))) (l27 : K.lookup f27 = some ⟨oc27, od27, .func (PySem.W.fnOf "_law_bit_rows" "_law_bit_rows" (defArgs (topS 27)) (defBody (topS 27)) (defScope (topS 27)) .none kV27 dc27 pm27 an27 cd27 ct27), sl27⟩) (c27 : PySem.W.codeIn K cd27 "_law_bit_rows" = true) (k27 : PySem.W.keepIn K (.ref f27) = true)
    {oc28 kV28 dc28 pm28 cd28 ct28 : Value} {od28 an28 : Option Addr} {sl28 : Array (Option Value)} {f28 : Addr}
    (a28 : PySem.W.nsIn K mainGlobals "_law_clause" = some (some (.ref f28))) (l28 : K.lookup f28 = some ⟨oc28, od28, .func (PySem.W.fnOf "_law_clause" "_law_clause" (defArgs (topS 28)) (defBody (topS 28)) (defScope (topS 28)) .none kV28 dc28 pm28 an28 cd28 ct28), sl28⟩) (c28 : PySem.W.codeIn K cd28 "_law_clause" = true) (k28 : PySem.W.keepIn K (.ref f28) = true)
    {oc29 kV29 dc29 pm29 cd29 ct29 : Value} {od29 an29 : Option Addr} {sl29 : Array (Option Value)} {f29 : Addr}
    (a29 : PySem.W.nsIn K mainGlobals "_law_bits" = some (some (.ref f29))) (l29 : K.lookup f29 = some ⟨oc29, od29, .func (PySem.W.fnOf "_law_bits" "_law_bits" (defArgs (topS 29)) (defBody (topS 29)) (defScope (topS 29)) .none kV29 dc29 pm29 an29 cd29 ct29), sl29⟩) (c29 : PySem.W.codeIn K cd29 "_law_bits" = true) (k29 : PySem.W.keepIn K (.ref f29) = true)
    {oc30 kV30 dc30 pm30 cd30 ct30 : Value} {od30 an30 : Option Addr} {sl30 : Array (Option Value)} {f30 : Addr}
    (a30 : PySem.W.nsIn K mainGlobals "_law_whole_numbers" = some (some (.ref f30))) (l30 : K.lookup f30 = some ⟨oc30, od30, .func (PySem.W.fnOf "_law_whole_numbers" "_law_whole_numbers" (defArgs (topS 30)) (defBody (topS 30)) (defScope (topS 30)) .none kV30 dc30 pm30 an30 cd30 ct30), sl30⟩) (c30 : PySem.W.codeIn K cd30 "_law_whole_numbers" = true) (k30 : PySem.W.keepIn K (.ref f30) = true)
    {oc31 kV31 dc31 pm31 cd31 ct31 : Value} {od31 an31 : Option Addr} {sl31 : Array (Option Value)} {f31 : Addr}
    (a31 : PySem.W.nsIn K mainGlobals "_law_same" = some (some (.ref f31))) (l31 : K.lookup f31 = some ⟨oc31, od31, .func (PySem.W.fnOf "_law_same" "_law_same" (defArgs (topS 31)) (defBody (topS 31)) (defScope (topS 31)) .none kV31 dc31 pm31 an31 cd31 ct31), sl31⟩) (c31 : PySem.W.codeIn K cd31 "_law_same" = true) (k31 : PySem.W.keepIn K (.ref f31) = true)
    {oc32 kV32 dc32 pm32 cd32 ct32 : Value} {od32 an32 : Option Addr} {sl32 : Array (Option Value)} {f32 : Addr}
    (a32 : PySem.W.nsIn K mainGlobals "_law_kept" = some (some (.ref f32))) (l32 : K.lookup f32 = some ⟨oc32, od32, .func (PySem.W.fnOf "_law_kept" "_law_kept" (defArgs (topS 32)) (defBody (topS 32)) (defScope (topS 32)) .none kV32 dc32 pm32 an32 cd32 ct32), sl32⟩) (c32 : PySem.W.codeIn K cd32 "_law_kept" = true) (k32 : PySem.W.keepIn K (.ref f32) = true)
    {oc33 kV33 dc33 pm33 cd33 ct33 : Value} {od33 an33 : Option Addr} {sl33 : Array (Option Value)} {f33 : Addr}
    (a33 : PySem.W.nsIn K mainGlobals "_law_tables" = some (some (.ref f33))) (l33 : K.lookup f33 = some ⟨oc33, od33, .func (PySem.W.fnOf "_law_tables" "_law_tables" (defArgs (topS 33)) (defBody (topS 33)) (defScope (topS 33)) .none kV33 dc33 pm33 an33 cd33 ct33), sl33⟩) (c33 : PySem.W.codeIn K cd33 "_law_tables" = true) (k33 : PySem.W.keepIn K (.ref f33) = true)
    {oc34 kV34 dc34 pm34 cd34 ct34 : Value} {od34 an34 : Option Addr} {sl34 : Array (Option Value)} {f34 : Addr}
    (a34 : PySem.W.nsIn K mainGlobals "_law_machines" = some (some (.ref f34))) (l34 : K.lookup f34 = some ⟨oc34, od34, .func (PySem.W.fnOf "_law_machines" "_law_machines" (defArgs (topS 34)) (defBody (topS 34)) (defScope (topS 34)) .none kV34 dc34 pm34 an34 cd34 ct34), sl34⟩) (c34 : PySem.W.codeIn K cd34 "_law_machines" = true) (k34 : PySem.W.keepIn K (.ref f34) = true)
    {oc35 kV35 dc35 pm35 cd35 ct35 : Value} {od35 an35 : Option Addr} {sl35 : Array (Option Value)} {f35 : Addr}
    (a35 : PySem.W.nsIn K mainGlobals "_law_lines" = some (some (.ref f35))) (l35 : K.lookup f35 = some ⟨oc35, od35, .func (PySem.W.fnOf "_law_lines" "_law_lines" (defArgs (topS 35)) (defBody (topS 35)) (defScope (topS 35)) .none kV35 dc35 pm35 an35 cd35 ct35), sl35⟩) (c35 : PySem.W.codeIn K cd35 "_law_lines" = true) (k35 : PySem.W.keepIn K (.ref f35) = true)
    {oc36 kV36 dc36 pm36 cd36 ct36 : Value} {od36 an36 : Option Addr} {sl36 : Array (Option Value)} {f36 : Addr}
    (a36 : PySem.W.nsIn K mainGlobals "_law_parity" = some (some (.ref f36))) (l36 : K.lookup f36 = some ⟨oc36, od36, .func (PySem.W.fnOf "_law_parity" "_law_parity" (defArgs (topS 36)) (defBody (topS 36)) (defScope (topS 36)) .none kV36 dc36 pm36 an36 cd36 ct36), sl36⟩) (c36 : PySem.W.codeIn K cd36 "_law_parity" = true) (k36 : PySem.W.keepIn K (.ref f36) = true)
    {oc37 kV37 dc37 pm37 cd37 ct37 : Value} {od37 an37 : Option Addr} {sl37 : Array (Option Value)} {f37 : Addr}
    (a37 : PySem.W.nsIn K mainGlobals "_law_clauses" = some (some (.ref f37))) (l37 : K.lookup f37 = some ⟨oc37, od37, .func (PySem.W.fnOf "_law_clauses" "_law_clauses" (defArgs (topS 37)) (defBody (topS 37)) (defScope (topS 37)) .none kV37 dc37 pm37 an37 cd37 ct37), sl37⟩) (c37 : PySem.W.codeIn K cd37 "_law_clauses" = true) (k37 : PySem.W.keepIn K (.ref f37) = true)
    {oc38 kV38 dc38 pm38 cd38 ct38 : Value} {od38 an38 : Option Addr} {sl38 : Array (Option Value)} {f38 : Addr}
    (a38 : PySem.W.nsIn K mainGlobals "_law_parities_right" = some (some (.ref f38))) (l38 : K.lookup f38 = some ⟨oc38, od38, .func (PySem.W.fnOf "_law_parities_right" "_law_parities_right" (defArgs (topS 38)) (defBody (topS 38)) (defScope (topS 38)) .none kV38 dc38 pm38 an38 cd38 ct38), sl38⟩) (c38 : PySem.W.codeIn K cd38 "_law_parities_right" = true) (k38 : PySem.W.keepIn K (.ref f38) = true)
    {oc39 kV39 dc39 pm39 cd39 ct39 : Value} {od39 an39 : Option Addr} {sl39 : Array (Option Value)} {f39 : Addr}
    (a39 : PySem.W.nsIn K mainGlobals "law" = some (some (.ref f39))) (l39 : K.lookup f39 = some ⟨oc39, od39, .func (PySem.W.fnOf "law" "law" (defArgs (topS 39)) (defBody (topS 39)) (defScope (topS 39)) .none kV39 dc39 pm39 an39 cd39 ct39), sl39⟩) (c39 : PySem.W.codeIn K cd39 "law" = true) (k39 : PySem.W.keepIn K (.ref f39) = true)
    {f7 : Addr} (a7 : PySem.W.nsIn K mainGlobals "NEVER" = some (some (.ref f7)))
    {f7_1 : Addr}
    {f7_2 : Tok}
    {f7_3 : Tok}
    {ddf7 : Option Addr} {nnf7 : Nat} {ssf7 : Array (Option Value)}
    (lkf7 : K.lookup f7 = some ⟨.type "tuple", ddf7, .seq #[.ref f7_1, .int (0) f7_2, .int (1) f7_3] nnf7, ssf7⟩)
    {ddf7_1 : Option Addr} {nnf7_1 : Nat} {ssf7_1 : Array (Option Value)}
    (lkf7_1 : K.lookup f7_1 = some ⟨.type "tuple", ddf7_1, .seq #[] nnf7_1, ssf7_1⟩)
    {f17 : Addr} (a17 : PySem.W.nsIn K mainGlobals "ONE_LETTER" = some (some (.ref f17)))
    {f17_1 : Addr}
    {f17_2 : Addr}
    {f17_3 : Addr}
    {ddf17 : Option Addr} {nnf17 : Nat} {ssf17 : Array (Option Value)}
    (lkf17 : K.lookup f17 = some ⟨.type "tuple", ddf17, .seq #[.ref f17_1, .ref f17_2, .ref f17_3] nnf17, ssf17⟩)
    {ddf17_1 : Option Addr} {nnf17_1 : Nat} {ssf17_1 : Array (Option Value)}
    (lkf17_1 : K.lookup f17_1 = some ⟨.type "tuple", ddf17_1, .seq #[] nnf17_1, ssf17_1⟩)
    {f17_2_4 : Addr}
    {f17_2_5 : Addr}
    {ddf17_2 : Option Addr} {nnf17_2 : Nat} {ssf17_2 : Array (Option Value)}
    (lkf17_2 : K.lookup f17_2 = some ⟨.type "tuple", ddf17_2, .seq #[.ref f17_2_4, .ref f17_2_5] nnf17_2, ssf17_2⟩)
    {f17_2_4_6 : Tok}
    {ddf17_2_4 : Option Addr} {nnf17_2_4 : Nat} {ssf17_2_4 : Array (Option Value)}
    (lkf17_2_4 : K.lookup f17_2_4 = some ⟨.type "tuple", ddf17_2_4, .seq #[.int (1) f17_2_4_6] nnf17_2_4, ssf17_2_4⟩)
    {f17_2_5_7 : Tok}
    {ddf17_2_5 : Option Addr} {nnf17_2_5 : Nat} {ssf17_2_5 : Array (Option Value)}
    (lkf17_2_5 : K.lookup f17_2_5 = some ⟨.type "tuple", ddf17_2_5, .seq #[.int (-1) f17_2_5_7] nnf17_2_5, ssf17_2_5⟩)
    {f17_3_8 : Tok}
    {f17_3_9 : Tok}
    {ddf17_3 : Option Addr} {nnf17_3 : Nat} {ssf17_3 : Array (Option Value)}
    (lkf17_3 : K.lookup f17_3 = some ⟨.type "tuple", ddf17_3, .seq #[.int (0) f17_3_8, .int (1) f17_3_9] nnf17_3, ssf17_3⟩)
    (z_len : PySem.W.nsIn K mainGlobals "len" = some none)
    (z_int : PySem.W.nsIn K mainGlobals "int" = some none)
    (z_str : PySem.W.nsIn K mainGlobals "str" = some none)
    (z_bool : PySem.W.nsIn K mainGlobals "bool" = some none)
    (z_list : PySem.W.nsIn K mainGlobals "list" = some none)
    (z_tuple : PySem.W.nsIn K mainGlobals "tuple" = some none)
    (z_dict : PySem.W.nsIn K mainGlobals "dict" = some none)
    (z_range : PySem.W.nsIn K mainGlobals "range" = some none)
    (z_zip : PySem.W.nsIn K mainGlobals "zip" = some none)
    (z_sorted : PySem.W.nsIn K mainGlobals "sorted" = some none)
    (z_isinstance : PySem.W.nsIn K mainGlobals "isinstance" = some none)
    (z_sum : PySem.W.nsIn K mainGlobals "sum" = some none)
    (z_ValueError : PySem.W.nsIn K mainGlobals "ValueError" = some none)
    : ∃ fd : FuncData, (∀ (s : Shared) (v : Value), BindsTo s fd ⟨[v], []⟩ [("_law_script", v)]) ∧ ∀ base : Heap, K.In base → base.Ns mainGlobals mg → FnOk l.prog w K mg base CX0 11 fa fd ["_law_script"] (sp_law K) := by
  have e := hfa.symm.trans (PySem.W.mg_of X G a39)
  cases e
  let A : Nat → Addr := fun i => match i with
    | 1 => f1
    | 2 => f2
    | 8 => f8
    | 9 => f9
    | 11 => f11
    | 12 => f12
    | 14 => f14
    | 15 => f15
    | 18 => f18
    | 19 => f19
    | 21 => f21
    | 22 => f22
    | 23 => f23
    | 24 => f24
    | 25 => f25
    | 26 => f26
    | 27 => f27
    | 28 => f28
    | 29 => f29
    | 30 => f30
    | 31 => f31
    | 32 => f32
    | 33 => f33
    | 34 => f34
    | 35 => f35
    | 36 => f36
    | 37 => f37
    | 38 => f38
    | 39 => fa
    | 4 => f4
    | 5 => f5
    | 1100 => f1100
    | 7 => f7
    | 17 => f17
    | _ => 0
  let D : Nat → FuncData := fun i => match i with
    | 1100 => PySem.W.fnOf "__init__" "InvalidConstraint.__init__" (defArgs (topM 5 0)) (defBody (topM 5 0)) (defScope (topM 5 0)) .none kV1100 dc1100 pm1100 an1100 cd1100 ct1100
    | 1 => PySem.W.fnOf "bit_rows" "bit_rows" (defArgs (topS 1)) (defBody (topS 1)) (defScope (topS 1)) .none kV1 dc1 pm1 an1 cd1 ct1
    | 2 => PySem.W.fnOf "is_kept" "is_kept" (defArgs (topS 2)) (defBody (topS 2)) (defScope (topS 2)) .none kV2 dc2 pm2 an2 cd2 ct2
    | 8 => PySem.W.fnOf "clauses_of" "clauses_of" (defArgs (topS 8)) (defBody (topS 8)) (defScope (topS 8)) .none kV8 dc8 pm8 an8 cd8 ct8
    | 9 => PySem.W.fnOf "bits_of_parities" "bits_of_parities" (defArgs (topS 9)) (defBody (topS 9)) (defScope (topS 9)) .none kV9 dc9 pm9 an9 cd9 ct9
    | 11 => PySem.W.fnOf "line_of" "line_of" (defArgs (topS 11)) (defBody (topS 11)) (defScope (topS 11)) .none kV11 dc11 pm11 an11 cd11 ct11
    | 12 => PySem.W.fnOf "lines_of_steps" "lines_of_steps" (defArgs (topS 12)) (defBody (topS 12)) (defScope (topS 12)) .none kV12 dc12 pm12 an12 cd12 ct12
    | 14 => PySem.W.fnOf "table_of" "table_of" (defArgs (topS 14)) (defBody (topS 14)) (defScope (topS 14)) .none kV14 dc14 pm14 an14 cd14 ct14
    | 15 => PySem.W.fnOf "rows_of_bits" "rows_of_bits" (defArgs (topS 15)) (defBody (topS 15)) (defScope (topS 15)) .none kV15 dc15 pm15 an15 cd15 ct15
    | 18 => PySem.W.fnOf "machine_of" "machine_of" (defArgs (topS 18)) (defBody (topS 18)) (defScope (topS 18)) .none kV18 dc18 pm18 an18 cd18 ct18
    | 19 => PySem.W.fnOf "words_of_bits" "words_of_bits" (defArgs (topS 19)) (defBody (topS 19)) (defScope (topS 19)) .none kV19 dc19 pm19 an19 cd19 ct19
    | 21 => PySem.W.fnOf "_law_source" "_law_source" (defArgs (topS 21)) (defBody (topS 21)) (defScope (topS 21)) .none kV21 dc21 pm21 an21 cd21 ct21
    | 22 => PySem.W.fnOf "_law_draw" "_law_draw" (defArgs (topS 22)) (defBody (topS 22)) (defScope (topS 22)) .none kV22 dc22 pm22 an22 cd22 ct22
    | 23 => PySem.W.fnOf "_law_some" "_law_some" (defArgs (topS 23)) (defBody (topS 23)) (defScope (topS 23)) .none kV23 dc23 pm23 an23 cd23 ct23
    | 24 => PySem.W.fnOf "_law_bound" "_law_bound" (defArgs (topS 24)) (defBody (topS 24)) (defScope (topS 24)) .none kV24 dc24 pm24 an24 cd24 ct24
    | 25 => PySem.W.fnOf "_law_constraint" "_law_constraint" (defArgs (topS 25)) (defBody (topS 25)) (defScope (topS 25)) .none kV25 dc25 pm25 an25 cd25 ct25
    | 26 => PySem.W.fnOf "_law_theory" "_law_theory" (defArgs (topS 26)) (defBody (topS 26)) (defScope (topS 26)) .none kV26 dc26 pm26 an26 cd26 ct26
    | 27 => PySem.W.fnOf "_law_bit_rows" "_law_bit_rows" (defArgs (topS 27)) (defBody (topS 27)) (defScope (topS 27)) .none kV27 dc27 pm27 an27 cd27 ct27
    | 28 => PySem.W.fnOf "_law_clause" "_law_clause" (defArgs (topS 28)) (defBody (topS 28)) (defScope (topS 28)) .none kV28 dc28 pm28 an28 cd28 ct28
    | 29 => PySem.W.fnOf "_law_bits" "_law_bits" (defArgs (topS 29)) (defBody (topS 29)) (defScope (topS 29)) .none kV29 dc29 pm29 an29 cd29 ct29
    | 30 => PySem.W.fnOf "_law_whole_numbers" "_law_whole_numbers" (defArgs (topS 30)) (defBody (topS 30)) (defScope (topS 30)) .none kV30 dc30 pm30 an30 cd30 ct30
    | 31 => PySem.W.fnOf "_law_same" "_law_same" (defArgs (topS 31)) (defBody (topS 31)) (defScope (topS 31)) .none kV31 dc31 pm31 an31 cd31 ct31
    | 32 => PySem.W.fnOf "_law_kept" "_law_kept" (defArgs (topS 32)) (defBody (topS 32)) (defScope (topS 32)) .none kV32 dc32 pm32 an32 cd32 ct32
    | 33 => PySem.W.fnOf "_law_tables" "_law_tables" (defArgs (topS 33)) (defBody (topS 33)) (defScope (topS 33)) .none kV33 dc33 pm33 an33 cd33 ct33
    | 34 => PySem.W.fnOf "_law_machines" "_law_machines" (defArgs (topS 34)) (defBody (topS 34)) (defScope (topS 34)) .none kV34 dc34 pm34 an34 cd34 ct34
    | 35 => PySem.W.fnOf "_law_lines" "_law_lines" (defArgs (topS 35)) (defBody (topS 35)) (defScope (topS 35)) .none kV35 dc35 pm35 an35 cd35 ct35
    | 36 => PySem.W.fnOf "_law_parity" "_law_parity" (defArgs (topS 36)) (defBody (topS 36)) (defScope (topS 36)) .none kV36 dc36 pm36 an36 cd36 ct36
    | 37 => PySem.W.fnOf "_law_clauses" "_law_clauses" (defArgs (topS 37)) (defBody (topS 37)) (defScope (topS 37)) .none kV37 dc37 pm37 an37 cd37 ct37
    | 38 => PySem.W.fnOf "_law_parities_right" "_law_parities_right" (defArgs (topS 38)) (defBody (topS 38)) (defScope (topS 38)) .none kV38 dc38 pm38 an38 cd38 ct38
    | 39 => PySem.W.fnOf "law" "law" (defArgs (topS 39)) (defBody (topS 39)) (defScope (topS 39)) .none kV39 dc39 pm39 an39 cd39 ct39
    | _ => PySem.W.fnOf "law" "law" (defArgs (topS 39)) (defBody (topS 39)) (defScope (topS 39)) .none kV39 dc39 pm39 an39 cd39 ct39
  have T : Txt K mg A D := {
    g_ShadowError := PySem.W.mg_of X G a4
    g_InvalidConstraint := PySem.W.mg_of X G a5
    E_InvalidConstraint := { gC := PySem.W.mg_of X G a5, oex := ⟨⟨_, _, _, _, _, _, _, _, _, _, _, _, _, _, _, xL_5, rv_5⟩, sa_5, eC_5, tC_5, kC_5⟩, no := no_5, iC := iC_5, tI := tI_5, xf := ⟨ga_5, gg_5, eC_5, hC_5⟩, isa := isa_5, isn := isn_5, ist := ist_5, ism := ism_5, isc := isC_5, F := fun_mk (st := (topM 5 0)) l1100 c1100 k1100, b := (fun_mk (st := (topM 5 0)) l1100 c1100 k1100).binds (ps := ["self", "index"]) fun _ _ _ _ _ _ us hl => match us, hl with | [_, _], _ => rfl }
    x_InvalidConstraint_ShadowError := PySem.W.exm_ref eC_4 hC_4 tC_4 sb_5_4
    k_InvalidConstraint_ShadowError := ki_5_4
    x_InvalidConstraint_InvalidConstraint := PySem.W.exm_ref eC_5 hC_5 tC_5 sb_5_5
    k_InvalidConstraint_InvalidConstraint := ki_5_5
    kv_InvalidConstraint := kv_5
    S_InvalidConstraint := ⟨rd_4, sg_4, it_4⟩
    F_bit_rows := fun_mk (st := topS 1) l1 c1 k1
    g_bit_rows := PySem.W.mg_of X G a1
    b_bit_rows := (fun_mk (st := topS 1) l1 c1 k1).binds (ps := ["count"]) fun _ _ _ _ _ _ us hl => match us, hl with | [_], _ => rfl
    F_is_kept := fun_mk (st := topS 2) l2 c2 k2
    g_is_kept := PySem.W.mg_of X G a2
    b_is_kept := (fun_mk (st := topS 2) l2 c2 k2).binds (ps := ["clause", "values"]) fun _ _ _ _ _ _ us hl => match us, hl with | [_, _], _ => rfl
    F_clauses_of := fun_mk (st := topS 8) l8 c8 k8
    g_clauses_of := PySem.W.mg_of X G a8
    b_clauses_of := (fun_mk (st := topS 8) l8 c8 k8).binds (ps := ["terms", "rest"]) fun _ _ _ _ _ _ us hl => match us, hl with | [_, _], _ => rfl
    F_bits_of_parities := fun_mk (st := topS 9) l9 c9 k9
    g_bits_of_parities := PySem.W.mg_of X G a9
    b_bits_of_parities := (fun_mk (st := topS 9) l9 c9 k9).binds (ps := ["theory"]) fun _ _ _ _ _ _ us hl => match us, hl with | [_], _ => rfl
    F_line_of := fun_mk (st := topS 11) l11 c11 k11
    g_line_of := PySem.W.mg_of X G a11
    b_line_of := (fun_mk (st := topS 11) l11 c11 k11).binds (ps := ["constraint"]) fun _ _ _ _ _ _ us hl => match us, hl with | [_], _ => rfl
    F_lines_of_steps := fun_mk (st := topS 12) l12 c12 k12
    g_lines_of_steps := PySem.W.mg_of X G a12
    b_lines_of_steps := (fun_mk (st := topS 12) l12 c12 k12).binds (ps := ["theory"]) fun _ _ _ _ _ _ us hl => match us, hl with | [_], _ => rfl
    F_table_of := fun_mk (st := topS 14) l14 c14 k14
    g_table_of := PySem.W.mg_of X G a14
    b_table_of := (fun_mk (st := topS 14) l14 c14 k14).binds (ps := ["clause"]) fun _ _ _ _ _ _ us hl => match us, hl with | [_], _ => rfl
    F_rows_of_bits := fun_mk (st := topS 15) l15 c15 k15
    g_rows_of_bits := PySem.W.mg_of X G a15
    b_rows_of_bits := (fun_mk (st := topS 15) l15 c15 k15).binds (ps := ["theory"]) fun _ _ _ _ _ _ us hl => match us, hl with | [_], _ => rfl
    F_machine_of := fun_mk (st := topS 18) l18 c18 k18
    g_machine_of := PySem.W.mg_of X G a18
    b_machine_of := (fun_mk (st := topS 18) l18 c18 k18).binds (ps := ["clause"]) fun _ _ _ _ _ _ us hl => match us, hl with | [_], _ => rfl
    F_words_of_bits := fun_mk (st := topS 19) l19 c19 k19
    g_words_of_bits := PySem.W.mg_of X G a19
    b_words_of_bits := (fun_mk (st := topS 19) l19 c19 k19).binds (ps := ["theory"]) fun _ _ _ _ _ _ us hl => match us, hl with | [_], _ => rfl
    F__law_source := fun_mk (st := topS 21) l21 c21 k21
    g__law_source := PySem.W.mg_of X G a21
    b__law_source := (fun_mk (st := topS 21) l21 c21 k21).binds (ps := ["_law_script", "_law_k"]) fun _ _ _ _ _ _ us hl => match us, hl with | [_, _], _ => rfl
    F__law_draw := fun_mk (st := topS 22) l22 c22 k22
    g__law_draw := PySem.W.mg_of X G a22
    b__law_draw := (fun_mk (st := topS 22) l22 c22 k22).binds (ps := ["_law_source_here", "_law_limit"]) fun _ _ _ _ _ _ us hl => match us, hl with | [_, _], _ => rfl
    F__law_some := fun_mk (st := topS 23) l23 c23 k23
    g__law_some := PySem.W.mg_of X G a23
    b__law_some := (fun_mk (st := topS 23) l23 c23 k23).binds (ps := ["_law_source_here", "_law_names", "_law_most"]) fun _ _ _ _ _ _ us hl => match us, hl with | [_, _, _], _ => rfl
    F__law_bound := fun_mk (st := topS 24) l24 c24 k24
    g__law_bound := PySem.W.mg_of X G a24
    b__law_bound := (fun_mk (st := topS 24) l24 c24 k24).binds (ps := ["_law_source_here"]) fun _ _ _ _ _ _ us hl => match us, hl with | [_], _ => rfl
    F__law_constraint := fun_mk (st := topS 25) l25 c25 k25
    g__law_constraint := PySem.W.mg_of X G a25
    b__law_constraint := (fun_mk (st := topS 25) l25 c25 k25).binds (ps := ["_law_source_here", "_law_names"]) fun _ _ _ _ _ _ us hl => match us, hl with | [_, _], _ => rfl
    F__law_theory := fun_mk (st := topS 26) l26 c26 k26
    g__law_theory := PySem.W.mg_of X G a26
    b__law_theory := (fun_mk (st := topS 26) l26 c26 k26).binds (ps := ["_law_source_here"]) fun _ _ _ _ _ _ us hl => match us, hl with | [_], _ => rfl
    F__law_bit_rows := fun_mk (st := topS 27) l27 c27 k27
    g__law_bit_rows := PySem.W.mg_of X G a27
    b__law_bit_rows := (fun_mk (st := topS 27) l27 c27 k27).binds (ps := ["_law_count"]) fun _ _ _ _ _ _ us hl => match us, hl with | [_], _ => rfl
    F__law_clause := fun_mk (st := topS 28) l28 c28 k28
    g__law_clause := PySem.W.mg_of X G a28
    b__law_clause := (fun_mk (st := topS 28) l28 c28 k28).binds (ps := ["_law_source_here", "_law_names"]) fun _ _ _ _ _ _ us hl => match us, hl with | [_, _], _ => rfl
    F__law_bits := fun_mk (st := topS 29) l29 c29 k29
    g__law_bits := PySem.W.mg_of X G a29
    b__law_bits := (fun_mk (st := topS 29) l29 c29 k29).binds (ps := ["_law_source_here", "_law_most"]) fun _ _ _ _ _ _ us hl => match us, hl with | [_, _], _ => rfl
    F__law_whole_numbers := fun_mk (st := topS 30) l30 c30 k30
    g__law_whole_numbers := PySem.W.mg_of X G a30
    b__law_whole_numbers := (fun_mk (st := topS 30) l30 c30 k30).binds (ps := ["_law_value"]) fun _ _ _ _ _ _ us hl => match us, hl with | [_], _ => rfl
    F__law_same := fun_mk (st := topS 31) l31 c31 k31
    g__law_same := PySem.W.mg_of X G a31
    b__law_same := (fun_mk (st := topS 31) l31 c31 k31).binds (ps := ["_law_actual", "_law_expected"]) fun _ _ _ _ _ _ us hl => match us, hl with | [_, _], _ => rfl
    F__law_kept := fun_mk (st := topS 32) l32 c32 k32
    g__law_kept := PySem.W.mg_of X G a32
    b__law_kept := (fun_mk (st := topS 32) l32 c32 k32).binds (ps := ["_law_clause_here", "_law_row"]) fun _ _ _ _ _ _ us hl => match us, hl with | [_, _], _ => rfl
    F__law_tables := fun_mk (st := topS 33) l33 c33 k33
    g__law_tables := PySem.W.mg_of X G a33
    b__law_tables := (fun_mk (st := topS 33) l33 c33 k33).binds (ps := ["_law_theory_here"]) fun _ _ _ _ _ _ us hl => match us, hl with | [_], _ => rfl
    F__law_machines := fun_mk (st := topS 34) l34 c34 k34
    g__law_machines := PySem.W.mg_of X G a34
    b__law_machines := (fun_mk (st := topS 34) l34 c34 k34).binds (ps := ["_law_theory_here"]) fun _ _ _ _ _ _ us hl => match us, hl with | [_], _ => rfl
    F__law_lines := fun_mk (st := topS 35) l35 c35 k35
    g__law_lines := PySem.W.mg_of X G a35
    b__law_lines := (fun_mk (st := topS 35) l35 c35 k35).binds (ps := ["_law_theory_here"]) fun _ _ _ _ _ _ us hl => match us, hl with | [_], _ => rfl
    F__law_parity := fun_mk (st := topS 36) l36 c36 k36
    g__law_parity := PySem.W.mg_of X G a36
    b__law_parity := (fun_mk (st := topS 36) l36 c36 k36).binds (ps := ["_law_source_here", "_law_names"]) fun _ _ _ _ _ _ us hl => match us, hl with | [_, _], _ => rfl
    F__law_clauses := fun_mk (st := topS 37) l37 c37 k37
    g__law_clauses := PySem.W.mg_of X G a37
    b__law_clauses := (fun_mk (st := topS 37) l37 c37 k37).binds (ps := ["_law_parity_here"]) fun _ _ _ _ _ _ us hl => match us, hl with | [_], _ => rfl
    F__law_parities_right := fun_mk (st := topS 38) l38 c38 k38
    g__law_parities_right := PySem.W.mg_of X G a38
    b__law_parities_right := (fun_mk (st := topS 38) l38 c38 k38).binds (ps := ["_law_source_here"]) fun _ _ _ _ _ _ us hl => match us, hl with | [_], _ => rfl
    F_law := fun_mk (st := topS 39) l39 c39 k39
    g_law := PySem.W.mg_of X G a39
    b_law := (fun_mk (st := topS 39) l39 c39 k39).binds (ps := ["_law_script"]) fun _ _ _ _ _ _ us hl => match us, hl with | [_], _ => rfl
    z_len := PySem.W.mg_none_of X G z_len
    z_int := PySem.W.mg_none_of X G z_int
    z_str := PySem.W.mg_none_of X G z_str
    z_bool := PySem.W.mg_none_of X G z_bool
    z_list := PySem.W.mg_none_of X G z_list
    z_tuple := PySem.W.mg_none_of X G z_tuple
    z_dict := PySem.W.mg_none_of X G z_dict
    z_range := PySem.W.mg_none_of X G z_range
    z_zip := PySem.W.mg_none_of X G z_zip
    z_sorted := PySem.W.mg_none_of X G z_sorted
    z_isinstance := PySem.W.mg_none_of X G z_isinstance
    z_sum := PySem.W.mg_none_of X G z_sum
    z_ValueError := PySem.W.mg_none_of X G z_ValueError
    g_NEVER := PySem.W.mg_of X G a7
    d_NEVER := fun B H => (.tup (.inr ⟨_, _, _, lkf7, rfl, rfl, (by show _ ≤ sizeLine; simp [sizeLine_eq]), (.cons (rvRef _) (.cons (rvInt _ _) (.cons (rvInt _ _) .nil)))⟩) (.cons (.tup (.inr ⟨_, _, _, lkf7_1, rfl, rfl, (by show _ ≤ sizeLine; simp [sizeLine_eq]), .nil⟩) .nil) (.cons (.int _) (.cons (.int _) .nil))))
    g_ONE_LETTER := PySem.W.mg_of X G a17
    d_ONE_LETTER := fun B H => (.tup (.inr ⟨_, _, _, lkf17, rfl, rfl, (by show _ ≤ sizeLine; simp [sizeLine_eq]), (.cons (rvRef _) (.cons (rvRef _) (.cons (rvRef _) .nil)))⟩) (.cons (.tup (.inr ⟨_, _, _, lkf17_1, rfl, rfl, (by show _ ≤ sizeLine; simp [sizeLine_eq]), .nil⟩) .nil) (.cons (.tup (.inr ⟨_, _, _, lkf17_2, rfl, rfl, (by show _ ≤ sizeLine; simp [sizeLine_eq]), (.cons (rvRef _) (.cons (rvRef _) .nil))⟩) (.cons (.tup (.inr ⟨_, _, _, lkf17_2_4, rfl, rfl, (by show _ ≤ sizeLine; simp [sizeLine_eq]), (.cons (rvInt _ _) .nil)⟩) (.cons (.int _) .nil)) (.cons (.tup (.inr ⟨_, _, _, lkf17_2_5, rfl, rfl, (by show _ ≤ sizeLine; simp [sizeLine_eq]), (.cons (rvInt _ _) .nil)⟩) (.cons (.int _) .nil)) .nil))) (.cons (.tup (.inr ⟨_, _, _, lkf17_3, rfl, rfl, (by show _ ≤ sizeLine; simp [sizeLine_eq]), (.cons (rvInt _ _) (.cons (rvInt _ _) .nil))⟩) (.cons (.int _) (.cons (.int _) .nil))) .nil))))
  }
  exact ⟨D 39, fun s v => .of_eq rfl, fun base _ _ => ok_law T⟩
theorem walk {l : PySem.W.OpenLaw} {q : Program} {loose : List Str} {XP : (Str → Option Value) → Heap → Prop} {YP : World → Heap → Prop} {d : DefRec} {K : Params → PySem.W.Frag} (hn : l.most = some 63) (hdf : d.params.defaults = [])
    (hY : ∀ (w : World) (h : Heap), YP w h → (K w.params).In h)
    (F : ∀ (w : World) (mg : Str → Option Value) (fa : Addr) (h : Heap), (K w.params).In h → h.Ns mainGlobals mg → mg d.name = some (.ref fa) →
      ∃ fd : FuncData, (∀ (s : Shared) (u : Value), BindsTo s fd ⟨[u], []⟩ [("_law_script", u)]) ∧ ∀ base : Heap, (K w.params).In base → base.Ns mainGlobals mg → FnOk l.prog w (K w.params) mg base CX0 11 fa fd ["_law_script"] (sp_law (K w.params))) :
    PySem.W.WalkO q loose XP YP l.row.toRowW d [] (fun f vs => PySem.call f vs) :=
  L2.walk_of (n := 63) (k := 11) (x := "_law_script") (CX := fun _ => CX0) (sp := fun w => sp_law (K w.params)) hn (by decide) hdf ⟨rfl, by decide, by decide⟩ hY F (fun _ H a ns hl hO hS => ⟨a, ns, rfl, hS, hl, fun _ => rfl⟩) fun _ _ _ _ _ z => z
end Sl
open PySem PySem.W PyProof.Rows
set_option maxRecDepth 100000 in
set_option maxHeartbeats 0 in
theorem PySem.Challenge.cw_shadowlinks_k43_bridges_as_written_holds : PySem.Challenge.rw_shadowlinks_k43_bridges_as_written.Holds := by
  w_on; o_law; k_head; (case hw => w_witness2)
  k_fill
  refine Sl.walk (l := PySem.Challenge.rw_shadowlinks_k43_bridges_as_written) rfl rfl (fun w h Y => PySem.W.kIn_of Y) ?F
  case F =>
    intro w mg fa h KX G hmg
    refine' Sl.all_mk KX G hmg ?a4 ?a5 ?xL_5 ?rv_5 ?sa_5 ?ga_5 ?gg_5 ?no_5 ?iC_5 ?tI_5 ?kC_5 ?eC_5 ?tC_5 ?hC_5 ?isC_5 ?isa_5 ?isn_5 ?ist_5 ?ism_5 ?l1100 ?c1100 ?k1100 ?sb_5_4 ?ki_5_4 ?eC_4 ?tC_4 ?hC_4 ?sb_5_5 ?ki_5_5 ?kv_5 ?rd_4 ?sg_4 ?it_4 ?a1 ?l1 ?c1 ?k1 ?a2 ?l2 ?c2 ?k2 ?a8 ?l8 ?c8 ?k8 ?a9 ?l9 ?c9 ?k9 ?a11 ?l11 ?c11 ?k11 ?a12 ?l12 ?c12 ?k12 ?a14 ?l14 ?c14 ?k14 ?a15 ?l15 ?c15 ?k15 ?a18 ?l18 ?c18 ?k18 ?a19 ?l19 ?c19 ?k19 ?a21 ?l21 ?c21 ?k21 ?a22 ?l22 ?c22 ?k22 ?a23 ?l23 ?c23 ?k23 ?a24 ?l24 ?c24 ?k24 ?a25 ?l25 ?c25 ?k25 ?a26 ?l26 ?c26 ?k26 ?a27 ?l27 ?c27 ?k27 ?a28 ?l28 ?c28 ?k28 ?a29 ?l29 ?c29 ?k29 ?a30 ?l30 ?c30 ?k30 ?a31 ?l31 ?c31 ?k31 ?a32 ?l32 ?c32 ?k32 ?a33 ?l33 ?c33 ?k33 ?a34 ?l34 ?c34 ?k34 ?a35 ?l35 ?c35 ?k35 ?a36 ?l36 ?c36 ?k36 ?a37 ?l37 ?c37 ?k37 ?a38 ?l38 ?c38 ?k38 ?a39 ?l39 ?c39 ?k39 ?a7 ?lkf7 ?lkf7_1 ?a17 ?lkf17 ?lkf17_1 ?lkf17_2 ?lkf17_2_4 ?lkf17_2_5 ?lkf17_3 ?z_len ?z_int ?z_str ?z_bool ?z_list ?z_tuple ?z_dict ?z_range ?z_zip ?z_sorted ?z_isinstance ?z_sum ?z_ValueError
    (case a4 => k_is)
    (case a5 => k_is)
    (case xL_5 => k_is)
    (case rv_5 => decide +kernel)
    (case sa_5 => k_is)
    (case ga_5 => k_is)
    (case gg_5 => k_is)
    (case no_5 => k_is)
    (case iC_5 => k_is)
    (case tI_5 => k_is)
    (case kC_5 => k_is)
    (case eC_5 => k_is)
    (case tC_5 => k_is)
    (case hC_5 => k_is)
    (case isC_5 => k_is)
    (case isa_5 => k_is)
    (case isn_5 => k_is)
    (case ist_5 => k_is)
    (case ism_5 => k_is)
    (case l1100 => k_is)
    (case c1100 => k_is)
    (case k1100 => k_is)
    (case sb_5_4 => first | rfl | k_is)
    (case ki_5_4 => first | kit_is | k_is)
    (case eC_4 => k_is)
    (case tC_4 => k_is)
    (case hC_4 => k_is)
    (case sb_5_5 => first | rfl | k_is)
    (case ki_5_5 => first | kit_is | k_is)
    (case kv_5 => first | kit_is | k_is)
    (case rd_4 => k_is)
    (case sg_4 => k_is)
    (case it_4 => k_is)
    (case a1 => k_is)
    (case l1 => k_is)
    (case c1 => k_is)
    (case k1 => k_is)
    (case a2 => k_is)
    (case l2 => k_is)
    (case c2 => k_is)
    (case k2 => k_is)
    (case a8 => k_is)
    (case l8 => k_is)
    (case c8 => k_is)
    (case k8 => k_is)
    (case a9 => k_is)
    (case l9 => k_is)
    (case c9 => k_is)
    (case k9 => k_is)
    (case a11 => k_is)
    (case l11 => k_is)
    (case c11 => k_is)
    (case k11 => k_is)
    (case a12 => k_is)
    (case l12 => k_is)
    (case c12 => k_is)
    (case k12 => k_is)
    (case a14 => k_is)
    (case l14 => k_is)
    (case c14 => k_is)
    (case k14 => k_is)
    (case a15 => k_is)
    (case l15 => k_is)
    (case c15 => k_is)
    (case k15 => k_is)
    (case a18 => k_is)
    (case l18 => k_is)
    (case c18 => k_is)
    (case k18 => k_is)
    (case a19 => k_is)
    (case l19 => k_is)
    (case c19 => k_is)
    (case k19 => k_is)
    (case a21 => k_is)
    (case l21 => k_is)
    (case c21 => k_is)
    (case k21 => k_is)
    (case a22 => k_is)
    (case l22 => k_is)
    (case c22 => k_is)
    (case k22 => k_is)
    (case a23 => k_is)
    (case l23 => k_is)
    (case c23 => k_is)
    (case k23 => k_is)
    (case a24 => k_is)
    (case l24 => k_is)
    (case c24 => k_is)
    (case k24 => k_is)
    (case a25 => k_is)
    (case l25 => k_is)
    (case c25 => k_is)
    (case k25 => k_is)
    (case a26 => k_is)
    (case l26 => k_is)
    (case c26 => k_is)
    (case k26 => k_is)
    (case a27 => k_is)
    (case l27 => k_is)
    (case c27 => k_is)
    (case k27 => k_is)
    (case a28 => k_is)
    (case l28 => k_is)
    (case c28 => k_is)
    (case k28 => k_is)
    (case a29 => k_is)
    (case l29 => k_is)
    (case c29 => k_is)
    (case k29 => k_is)
    (case a30 => k_is)
    (case l30 => k_is)
    (case c30 => k_is)
    (case k30 => k_is)
    (case a31 => k_is)
    (case l31 => k_is)
    (case c31 => k_is)
    (case k31 => k_is)
    (case a32 => k_is)
    (case l32 => k_is)
    (case c32 => k_is)
    (case k32 => k_is)
    (case a33 => k_is)
    (case l33 => k_is)
    (case c33 => k_is)
    (case k33 => k_is)
    (case a34 => k_is)
    (case l34 => k_is)
    (case c34 => k_is)
    (case k34 => k_is)
    (case a35 => k_is)
    (case l35 => k_is)
    (case c35 => k_is)
    (case k35 => k_is)
    (case a36 => k_is)
    (case l36 => k_is)
    (case c36 => k_is)
    (case k36 => k_is)
    (case a37 => k_is)
    (case l37 => k_is)
    (case c37 => k_is)
    (case k37 => k_is)
    (case a38 => k_is)
    (case l38 => k_is)
    (case c38 => k_is)
    (case k38 => k_is)
    (case a39 => k_is)
    (case l39 => k_is)
    (case c39 => k_is)
    (case k39 => k_is)
    (case a7 => k_is)
    (case lkf7 => k_is)
    (case lkf7_1 => k_is)
    (case a17 => k_is)
    (case lkf17 => k_is)
    (case lkf17_1 => k_is)
    (case lkf17_2 => k_is)
    (case lkf17_2_4 => k_is)
    (case lkf17_2_5 => k_is)
    (case lkf17_3 => k_is)
    (case z_len => k_is)
    (case z_int => k_is)
    (case z_str => k_is)
    (case z_bool => k_is)
    (case z_list => k_is)
    (case z_tuple => k_is)
    (case z_dict => k_is)
    (case z_range => k_is)
    (case z_zip => k_is)
    (case z_sorted => k_is)
    (case z_isinstance => k_is)
    (case z_sum => k_is)
    (case z_ValueError => k_is)
