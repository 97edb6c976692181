import PyProof.Rows.All
import Wide.All
import OpenK.AllK
import Wide.FinOn
import Lean
import HandS.ForMost
import HandS.ForExc
import HandS.More
import HandS.Flow
import HandS.Defaults
import HandS.IsInst
import HandS.SortInts
import HandS.Evl
import HandS.Head0
import HandS.Head1
import HandS.Head2
import HandS.HeadEnd
import HandS.HeadHook1
import HandS.HeadHook2
import PySem.Challenge.RW_rungstead_k15_timer_rows
set_option Elab.async false
set_option linter.all false
set_option maxRecDepth 100000
set_option maxHeartbeats 4000000
set_option Elab.async false
set_option linter.all false
set_option maxRecDepth 100000
set_option maxHeartbeats 4000000
namespace R
open PySem PySem.Spec PyProof.Rows L2
/-! ### names of the readings' operators -/
abbrev rAddI : R2 := rI0 fun i j => .int (i + j)
abbrev rSubI : R2 := rI0 fun i j => .int (i - j)
abbrev rMulI : R2 := rI CMul fun i j => .int (i * j)
abbrev rModN : R2 := rI (fun _ j => j ≠ 0) fun i j => .int (i.fmod j)
abbrev rDivN : R2 := rI CDivN fun i j => .int (i.fdiv j)
abbrev rPowI : R2 := rI CPow fun i j => .int (i ^ j.toNat)
abbrev rNegI : V → Hp → VK → Prop := rU fun i => .int (-i)
abbrev rLt : R2 := rI0 fun i j => .bl (decide (i < j))
abbrev rLe : R2 := rI0 fun i j => .bl (decide (i ≤ j))
abbrev rGt : R2 := rI0 fun i j => .bl (decide (j < i))
abbrev rGe : R2 := rI0 fun i j => .bl (decide (j ≤ i))
def rIsN : R2 := fun x y H Q => y = .non ∧ Q (.bl (decide (x = .non))) H
def rNotN : R2 := fun x y H Q => y = .non ∧ Q (.bl (!decide (x = .non))) H
def rAddS : R2 := fun x y H Q => ∃ i j, x = .str i ∧ y = .str j ∧ i.length + j.length ≤ sizeLine ∧ Q (.str (i ++ j)) H
def rInSg : R2 := fun x y H Q => ∃ (c : Nat) (z : Str), x = .str ⟨#[c]⟩ ∧ y = .str z ∧ Q (.bl (decide (c ∈ z.cps.toList))) H
def rNotInSg : R2 := fun x y H Q => ∃ (c : Nat) (z : Str), x = .str ⟨#[c]⟩ ∧ y = .str z ∧ Q (.bl (!decide (c ∈ z.cps.toList))) H
def rInt1 : List V → Hp → VK → Prop := fun xs H Q => (∃ i, xs = [.int i] ∧ Q (.int i) H) ∨ ∃ k, xs = [.bl k] ∧ Q (.int (if k then 1 else 0)) H
def rBool1 : List V → Hp → VK → Prop := fun xs H Q => (∃ i, xs = [.int i] ∧ Q (.bl (i != 0)) H) ∨ ∃ k, xs = [.bl k] ∧ Q (.bl k) H
def rStr1 : List V → Hp → VK → Prop := fun xs H Q => ∃ i, xs = [.int i] ∧ i.natAbs.log2 < 1920 ∧ Q (.str (toString i)) H
def rAbs1 : List V → Hp → VK → Prop := fun xs H Q => ∃ i, xs = [.int i] ∧ Q (.int (if i < 0 then -i else i)) H
def rMax2 : List V → Hp → VK → Prop := fun xs H Q => ∃ i j, xs = [.int i, .int j] ∧ Q (.int (if j > i then j else i)) H
def rMin2 : List V → Hp → VK → Prop := fun xs H Q => ∃ i j, xs = [.int i, .int j] ∧ Q (.int (if j < i then j else i)) H
def tTru (K : PySem.W.Frag) (ta : TE) : TT := fun σ H Q => ta σ H fun x H' => ∃ k, TruV K x H' k ∧ Q k H'
theorem bt_len : bootBuiltins "len" = some (.builtin "len") := PySem.boot_len
theorem bt_int : bootBuiltins "int" = some (.type "int") := by decide +kernel
theorem bt_str : bootBuiltins "str" = some (.type "str") := by decide +kernel
theorem bt_bool : bootBuiltins "bool" = some (.type "bool") := by decide +kernel
theorem bt_list : bootBuiltins "list" = some (.type "list") := by decide +kernel
theorem bt_tuple : bootBuiltins "tuple" = some (.type "tuple") := by decide +kernel
theorem bt_dict : bootBuiltins "dict" = some (.type "dict") := by decide +kernel
theorem bt_abs : bootBuiltins "abs" = some (.builtin "abs") := by decide +kernel
theorem bt_min : bootBuiltins "min" = some (.builtin "min") := by decide +kernel
theorem bt_max : bootBuiltins "max" = some (.builtin "max") := by decide +kernel
theorem bt_sum : bootBuiltins "sum" = some (.builtin "sum") := by decide +kernel
theorem bt_all : bootBuiltins "all" = some (.builtin "all") := by decide +kernel
theorem bt_any : bootBuiltins "any" = some (.builtin "any") := by decide +kernel
theorem bt_isinstance : bootBuiltins "isinstance" = some (.builtin "isinstance") := by decide +kernel
theorem bt_sorted : bootBuiltins "sorted" = some (.builtin "sorted") := by decide +kernel
theorem bt_ord : bootBuiltins "ord" = some (.builtin "ord") := by decide +kernel
theorem bt_chr : bootBuiltins "chr" = some (.builtin "chr") := by decide +kernel
section
variable {X : Cx} {x : Str} {i : Int} {z : Str} {pos : Pos}
theorem pe_globI (hg : Gl X x) (h : ∃ t, X.mg x = some (.int i t)) (hd : (x == ("__debug__" : Str)) = false := by decide) : PE X (.Name x pos) (tC (.int i)) :=
  h.elim fun t e => pe_glob hg e ⟨t, rfl⟩ hd
theorem pe_globS (hg : Gl X x) (h : ∃ t, X.mg x = some (.str z t)) (hd : (x == ("__debug__" : Str)) = false := by decide) : PE X (.Name x pos) (tC (.str z)) :=
  h.elim fun t e => pe_glob hg e ⟨t, rfl⟩ hd
end
/-! ### written texts -/
theorem str_lit {a b : String} : (Str.ofString a = Str.ofString b) = (a = b) := by
  refine propext ⟨fun h => ?_, fun h => h ▸ rfl⟩
  rw [Str.ofString_eq_toList, Str.ofString_eq_toList] at h
  have h1 : a.toList.map Char.toNat = b.toList.map Char.toNat := by simpa using h
  have h2 : a.toList = b.toList := (List.map_inj_right fun x y e => Char.toNat_inj.mp e).mp h1
  exact String.toList_inj.mp h2
/-! ### promises by the number of arguments -/
def Sp0 (f : Hp → VK → XK → Prop) : Sp := fun vs H Q E => vs = [] ∧ f H Q E
def Sp1 (f : V → Hp → VK → XK → Prop) : Sp := fun vs H Q E => ∃ a, vs = [a] ∧ f a H Q E
def Sp2 (f : V → V → Hp → VK → XK → Prop) : Sp := fun vs H Q E => ∃ a b, vs = [a, b] ∧ f a b H Q E
def Sp3 (f : V → V → V → Hp → VK → XK → Prop) : Sp := fun vs H Q E => ∃ a b c, vs = [a, b, c] ∧ f a b c H Q E
def Sp4 (f : V → V → V → V → Hp → VK → XK → Prop) : Sp := fun vs H Q E => ∃ a b c d, vs = [a, b, c, d] ∧ f a b c d H Q E
def Sp5 (f : V → V → V → V → V → Hp → VK → XK → Prop) : Sp := fun vs H Q E => ∃ a b c d e, vs = [a, b, c, d, e] ∧ f a b c d e H Q E
def Sp6 (f : V → V → V → V → V → V → Hp → VK → XK → Prop) : Sp := fun vs H Q E => ∃ a b c d e g, vs = [a, b, c, d, e, g] ∧ f a b c d e g H Q E
section
variable {vs : List V} {H : Hp} {Q : VK} {E : XK}
theorem Sp0.len {f} (h : Sp0 f vs H Q E) : vs.length = 0 := by obtain ⟨rfl, _⟩ := h; rfl
theorem Sp1.len {f} (h : Sp1 f vs H Q E) : vs.length = 1 := by obtain ⟨_, rfl, _⟩ := h; rfl
theorem Sp2.len {f} (h : Sp2 f vs H Q E) : vs.length = 2 := by obtain ⟨_, _, rfl, _⟩ := h; rfl
theorem Sp3.len {f} (h : Sp3 f vs H Q E) : vs.length = 3 := by obtain ⟨_, _, _, rfl, _⟩ := h; rfl
theorem Sp4.len {f} (h : Sp4 f vs H Q E) : vs.length = 4 := by obtain ⟨_, _, _, _, rfl, _⟩ := h; rfl
theorem Sp5.len {f} (h : Sp5 f vs H Q E) : vs.length = 5 := by obtain ⟨_, _, _, _, _, rfl, _⟩ := h; rfl
theorem Sp6.len {f} (h : Sp6 f vs H Q E) : vs.length = 6 := by obtain ⟨_, _, _, _, _, _, rfl, _⟩ := h; rfl
theorem c_sp0 {f : Hp → VK → XK → Prop} (h : f H Q E) : Sp0 f ([] ++ []) H Q E := ⟨rfl, h⟩
theorem c_sp1 {f : V → Hp → VK → XK → Prop} {a} (h : f a H Q E) : Sp1 f ([a] ++ []) H Q E := ⟨a, rfl, h⟩
theorem c_sp2 {f : V → V → Hp → VK → XK → Prop} {a b} (h : f a b H Q E) : Sp2 f ([a, b] ++ []) H Q E := ⟨a, b, rfl, h⟩
theorem c_sp3 {f : V → V → V → Hp → VK → XK → Prop} {a b c} (h : f a b c H Q E) : Sp3 f ([a, b, c] ++ []) H Q E := ⟨a, b, c, rfl, h⟩
theorem c_sp4 {f : V → V → V → V → Hp → VK → XK → Prop} {a b c d} (h : f a b c d H Q E) : Sp4 f ([a, b, c, d] ++ []) H Q E := ⟨a, b, c, d, rfl, h⟩
theorem c_sp5 {f : V → V → V → V → V → Hp → VK → XK → Prop} {a b c d e} (h : f a b c d e H Q E) : Sp5 f ([a, b, c, d, e] ++ []) H Q E := ⟨a, b, c, d, e, rfl, h⟩
theorem c_sp6 {f : V → V → V → V → V → V → Hp → VK → XK → Prop} {a b c d e g} (h : f a b c d e g H Q E) : Sp6 f ([a, b, c, d, e, g] ++ []) H Q E := ⟨a, b, c, d, e, g, rfl, h⟩
end
/-! ### heaps: what stays -/
/-- the very heap -/
def IsH (H H' : Hp) : Prop := H = H'
/-- what is new there was new here -/
def Le (H H' : Hp) : Prop := ∀ a, H' a = none → H a = none
/-- all but l stays, nothing vanishes -/
structure Mu (l : Addr) (H H' : Hp) : Prop where
  keep : ∀ b o, b ≠ l → H b = some o → H' b = some o
  dom : Le H H'
section
variable {K : PySem.W.Frag} {H H1 H2 : Hp} {a b l p : Addr} {o u : HO} {xs : List V}
theorem Le.refl (H : Hp) : Le H H := fun _ h => h
theorem Le.trans (e : Le H H1) (e' : Le H1 H2) : Le H H2 := fun a h => e a (e' a h)
theorem le_s (e : Same H H1) : Le H H1 := fun _ h => e.free h
theorem le_m (e : Mu l H H1) : Le H H1 := e.dom
theorem le_free (e : Le H H1) (h : H1 a = none) : H a = none := e a h
theorem Same.new (h : H p = none) : Same H (upd H p o) := fun a u e => by
  rw [upd_ne (ne_of_none e h)]
  exact e
theorem Mu.upd : Mu l H (upd H l o) := ⟨fun b u n e => by
  rw [upd_ne n]
  exact e, fun a h => by
  by_cases z : a = l
  · subst z; rw [upd_same] at h; cases h
  · rw [upd_ne z] at h; exact h⟩
theorem Same.mu (h : Same H H1) : Mu l H H1 := ⟨fun b u _ e => h b u e, le_s h⟩
theorem Mu.trans (h : Mu l H H1) (h' : Mu l H1 H2) : Mu l H H2 := ⟨fun b u n e => h'.keep b u n (h.keep b u n e), h.dom.trans h'.dom⟩
theorem Mu.transS (h : Mu l H H1) (h' : Same H1 H2) : Mu l H H2 := ⟨fun b u n e => h' b u (h.keep b u n e), h.dom.trans (le_s h')⟩
/-- an object that H does not know may change -/
theorem Same.mut (e : Same H H1) (m : Mu l H1 H2) (h : H l = none) : Same H H2 := fun a u ha => m.keep a u (ne_of_none ha h) (e a u ha)
theorem Mu.mut (e : Mu b H H1) (m : Mu l H1 H2) (h : H l = none) : Mu b H H2 := ⟨fun a u n ha => m.keep a u (ne_of_none ha h) (e.keep a u n ha), e.dom.trans m.dom⟩
theorem lk_s (e : Same H H1) (h : H a = some o) : H1 a = some o := e a o h
theorem lk_m (e : Mu l H H1) (n : a ≠ l) (h : H a = some o) : H1 a = some o := e.keep a o n h
theorem Rd.same {u : HO} (e : Same H H1) (h : Rd H a u) : Rd H1 a u := by
  rcases h with h | ⟨o, h⟩
  · exact .inl (e _ _ h)
  · exact .inr ⟨o, e _ _ h⟩
theorem sql_s (e : Same H H1) (h : SqL K H a xs) : SqL K H1 a xs := e.seq h
theorem sqt_s (e : Same H H1) (h : SqT K H a xs) : SqT K H1 a xs := h.elim (fun h => .inl (Rd.same e h)) .inr
/-- a tuple is no list, dict or instance: it stays where l is one of these -/
theorem sqt_m (e : Mu l H H1) (m : Mut (H l)) (h : SqT K H a xs) : SqT K H1 a xs := by
  rcases h with (h | ⟨o, h⟩) | h
  · exact .inl (.inl (e.keep _ _ (fun z => by subst z; rw [h] at m; exact m) h))
  · exact .inl (.inr ⟨o, e.keep _ _ (fun z => by subst z; rw [h] at m; exact m) h⟩)
  · exact .inr h
theorem sql_m (e : Mu l H H1) (n : a ≠ l) (h : SqL K H a xs) : SqL K H1 a xs := by
  rcases h with (h | ⟨o, h⟩) | h
  · exact .inl (.inl (e.keep _ _ n h))
  · exact .inl (.inr ⟨o, e.keep _ _ n h⟩)
  · exact .inr h
end
/-- a list that never changes while it is so: the script -/
def SqF (K : PySem.W.Frag) (H : Hp) (a : Addr) (xs : List V) : Prop := (∃ o, H a = some (.frz o (.lst xs))) ∨
  ∃ (o : Obj) (its : Array Value) (n : Nat), K.lookup a = some o ∧ o.cls = .type "list" ∧ o.dict = none ∧ o.data = .seq its n ∧ its.size ≤ sizeLine ∧ Vals xs its.toList
section
variable {K : PySem.W.Frag} {H H1 : Hp} {a l : Addr} {xs : List V}
theorem SqF.sql (h : SqF K H a xs) : SqL K H a xs := h.elim (fun ⟨o, h⟩ => .inl (.inr ⟨o, h⟩)) .inr
theorem sqf_of (hO : Only H) (h : SqL K H a xs) : SqF K H a xs := by
  rcases h with (h | h) | h
  · rcases hO a with e | ⟨o, ys, e⟩ <;> rw [e] at h <;> cases h
  · exact .inl h
  · exact .inr h
theorem sqf_s (e : Same H H1) (h : SqF K H a xs) : SqF K H1 a xs := h.elim (fun ⟨o, h⟩ => .inl ⟨o, e _ _ h⟩) .inr
theorem sqf_m (e : Mu l H H1) (m : Mut (H l)) (h : SqF K H a xs) : SqF K H1 a xs := by
  rcases h with ⟨o, h⟩ | h
  · exact .inl ⟨o, e.keep _ _ (fun z => by subst z; rw [h] at m; exact m) h⟩
  · exact .inr h
end
/-! ### data -/
def tup1 (ds : List PyData) : PyData := .tuple ds
mutual
def imm : PyData → Bool
  | .list _ => false
  | .tuple ds => immAll ds
  | _ => true
def immAll : List PyData → Bool
  | [] => true
  | d :: ds => imm d && immAll ds
end
section
variable {K : PySem.W.Frag} {H H1 : Hp} {l : Addr}
mutual
theorem Dp.same (e : Same H H1) : ∀ {d : PyData} {v : V}, Dp K H v d → Dp K H1 v d
  | _, _, .non => .non
  | _, _, .bl b => .bl b
  | _, _, .int i => .int i
  | _, _, .str x => .str x
  | _, _, .lst h r => .lst (sql_s e h) (DpAll.same e r)
  | _, _, .tup h r => .tup (sqt_s e h) (DpAll.same e r)
theorem DpAll.same (e : Same H H1) : ∀ {ds : List PyData} {vs : List V}, DpAll K H vs ds → DpAll K H1 vs ds
  | _, _, .nil => .nil
  | _, _, .cons a b => .cons (Dp.same e a) (DpAll.same e b)
end
mutual
theorem Dp.mu (e : Mu l H H1) (m : Mut (H l)) : ∀ {d : PyData} {v : V}, imm d = true → Dp K H v d → Dp K H1 v d
  | _, _, _, .non => .non
  | _, _, _, .bl b => .bl b
  | _, _, _, .int i => .int i
  | _, _, _, .str x => .str x
  | _, _, i, .lst h r => by cases i
  | _, _, i, .tup h r => .tup (sqt_m e m h) (DpAll.mu e m (by simpa [imm] using i) r)
theorem DpAll.mu (e : Mu l H H1) (m : Mut (H l)) : ∀ {ds : List PyData} {vs : List V}, immAll ds = true → DpAll K H vs ds → DpAll K H1 vs ds
  | _, _, _, .nil => .nil
  | _, _, i, .cons a b => .cons (Dp.mu e m (Bool.and_eq_true_iff.mp (by simpa [immAll] using i)).1 a) (DpAll.mu e m (Bool.and_eq_true_iff.mp (by simpa [immAll] using i)).2 b)
end
theorem DpAll.len : ∀ {vs : List V} {ds : List PyData}, DpAll K H vs ds → vs.length = ds.length
  | _, _, .nil => rfl
  | _, _, .cons _ t => congrArg Nat.succ (DpAll.len t)
theorem DpAll.get : ∀ {vs : List V} {ds : List PyData} {i : Nat} {v : V}, DpAll K H vs ds → vs[i]? = some v → ∃ d, ds[i]? = some d ∧ Dp K H v d
  | _, _, _, _, .nil, e => by simp at e
  | _, _, 0, _, .cons r _, e => by simp at e; subst e; exact ⟨_, rfl, r⟩
  | _, _, i + 1, _, .cons _ t, e => by
    obtain ⟨d, h1, h2⟩ := DpAll.get (i := i) t (by simpa using e)
    exact ⟨d, by simpa using h1, h2⟩
theorem DpAll.getD : ∀ {vs : List V} {ds : List PyData} {i : Nat} {d : PyData}, DpAll K H vs ds → ds[i]? = some d → ∃ v, vs[i]? = some v ∧ Dp K H v d
  | _, _, _, _, .nil, e => by simp at e
  | _, _, 0, _, .cons r _, e => by simp at e; subst e; exact ⟨_, rfl, r⟩
  | _, _, i + 1, _, .cons _ t, e => by
    obtain ⟨v, h1, h2⟩ := DpAll.getD (i := i) t (by simpa using e)
    exact ⟨v, by simpa using h1, h2⟩
theorem DpAll.append : ∀ {vs ws : List V} {ds es : List PyData}, DpAll K H vs ds → DpAll K H ws es → DpAll K H (vs ++ ws) (ds ++ es)
  | _, _, _, _, .nil, s => s
  | _, _, _, _, .cons r t, s => .cons r (DpAll.append t s)
theorem DpAll.ints : ∀ (ns : List Int), DpAll K H (ns.map V.int) (ns.map PyData.int)
  | [] => .nil
  | n :: ns => .cons (.int n) (DpAll.ints ns)
theorem DpAll.int_inv : ∀ {ns : List Int} {vs : List V}, DpAll K H vs (ns.map PyData.int) → vs = ns.map V.int
  | [], _, .nil => rfl
  | _ :: ns, _, .cons (.int _) t => by rw [DpAll.int_inv t]; rfl
theorem DpAll.strs : ∀ (ns : List Str), DpAll K H (ns.map V.str) (ns.map PyData.str)
  | [] => .nil
  | n :: ns => .cons (.str n) (DpAll.strs ns)
end
/-- a new object o, handed on -/
def NewO (o : HO) (Q : VK) (H : Hp) : Prop := ∀ p, H p = none → Q (.ref p) (upd H p o)
/-! ### steps -/
section
variable {K : PySem.W.Frag} {σ : L2.St} {H : Hp} {Q : VK} {QT : Bool → Hp → Prop} {QA : List V → Hp → Prop} {v x y : V} {i j : Int} {n : Nat} {ta tb tc te : TE} {tt tu : TT} {tr : TA} {D : Ends} {t u w : TS} {P : Prop} [Decidable P]
theorem c_var (h : σ[n]? = some (some v)) (k : Q v H) : tVar n σ H Q := ⟨v, h, k⟩
theorem c_var0 {r : L2.St} (k : Q v H) : tVar 0 (some v :: r) H Q := ⟨v, rfl, k⟩
theorem c_var1 {a0 : Option V} {r : L2.St} (k : Q v H) : tVar 1 (a0 :: some v :: r) H Q := ⟨v, rfl, k⟩
theorem c_var2 {a0 a1 : Option V} {r : L2.St} (k : Q v H) : tVar 2 (a0 :: a1 :: some v :: r) H Q := ⟨v, rfl, k⟩
theorem c_var3 {a0 a1 a2 : Option V} {r : L2.St} (k : Q v H) : tVar 3 (a0 :: a1 :: a2 :: some v :: r) H Q := ⟨v, rfl, k⟩
theorem c_var4 {a0 a1 a2 a3 : Option V} {r : L2.St} (k : Q v H) : tVar 4 (a0 :: a1 :: a2 :: a3 :: some v :: r) H Q := ⟨v, rfl, k⟩
theorem c_var5 {a0 a1 a2 a3 a4 : Option V} {r : L2.St} (k : Q v H) : tVar 5 (a0 :: a1 :: a2 :: a3 :: a4 :: some v :: r) H Q := ⟨v, rfl, k⟩
theorem c_var6 {a0 a1 a2 a3 a4 a5 : Option V} {r : L2.St} (k : Q v H) : tVar 6 (a0 :: a1 :: a2 :: a3 :: a4 :: a5 :: some v :: r) H Q := ⟨v, rfl, k⟩
theorem c_var7 {a0 a1 a2 a3 a4 a5 a6 : Option V} {r : L2.St} (k : Q v H) : tVar 7 (a0 :: a1 :: a2 :: a3 :: a4 :: a5 :: a6 :: some v :: r) H Q := ⟨v, rfl, k⟩
theorem c_var8 {a0 a1 a2 a3 a4 a5 a6 a7 : Option V} {r : L2.St} (k : Q v H) : tVar 8 (a0 :: a1 :: a2 :: a3 :: a4 :: a5 :: a6 :: a7 :: some v :: r) H Q := ⟨v, rfl, k⟩
theorem c_var9 {a0 a1 a2 a3 a4 a5 a6 a7 a8 : Option V} {r : L2.St} (k : Q v H) : tVar 9 (a0 :: a1 :: a2 :: a3 :: a4 :: a5 :: a6 :: a7 :: a8 :: some v :: r) H Q := ⟨v, rfl, k⟩
theorem c_var10 {a0 a1 a2 a3 a4 a5 a6 a7 a8 a9 : Option V} {r : L2.St} (k : Q v H) : tVar 10 (a0 :: a1 :: a2 :: a3 :: a4 :: a5 :: a6 :: a7 :: a8 :: a9 :: some v :: r) H Q := ⟨v, rfl, k⟩
theorem c_var11 {a0 a1 a2 a3 a4 a5 a6 a7 a8 a9 a10 : Option V} {r : L2.St} (k : Q v H) : tVar 11 (a0 :: a1 :: a2 :: a3 :: a4 :: a5 :: a6 :: a7 :: a8 :: a9 :: a10 :: some v :: r) H Q := ⟨v, rfl, k⟩
theorem c_var12 {a0 a1 a2 a3 a4 a5 a6 a7 a8 a9 a10 a11 : Option V} {r : L2.St} (k : Q v H) : tVar 12 (a0 :: a1 :: a2 :: a3 :: a4 :: a5 :: a6 :: a7 :: a8 :: a9 :: a10 :: a11 :: some v :: r) H Q := ⟨v, rfl, k⟩
theorem c_var13 {a0 a1 a2 a3 a4 a5 a6 a7 a8 a9 a10 a11 a12 : Option V} {r : L2.St} (k : Q v H) : tVar 13 (a0 :: a1 :: a2 :: a3 :: a4 :: a5 :: a6 :: a7 :: a8 :: a9 :: a10 :: a11 :: a12 :: some v :: r) H Q := ⟨v, rfl, k⟩
theorem c_var14 {a0 a1 a2 a3 a4 a5 a6 a7 a8 a9 a10 a11 a12 a13 : Option V} {r : L2.St} (k : Q v H) : tVar 14 (a0 :: a1 :: a2 :: a3 :: a4 :: a5 :: a6 :: a7 :: a8 :: a9 :: a10 :: a11 :: a12 :: a13 :: some v :: r) H Q := ⟨v, rfl, k⟩
theorem c_var15 {a0 a1 a2 a3 a4 a5 a6 a7 a8 a9 a10 a11 a12 a13 a14 : Option V} {r : L2.St} (k : Q v H) : tVar 15 (a0 :: a1 :: a2 :: a3 :: a4 :: a5 :: a6 :: a7 :: a8 :: a9 :: a10 :: a11 :: a12 :: a13 :: a14 :: some v :: r) H Q := ⟨v, rfl, k⟩
theorem c_var16 {a0 a1 a2 a3 a4 a5 a6 a7 a8 a9 a10 a11 a12 a13 a14 a15 : Option V} {r : L2.St} (k : Q v H) : tVar 16 (a0 :: a1 :: a2 :: a3 :: a4 :: a5 :: a6 :: a7 :: a8 :: a9 :: a10 :: a11 :: a12 :: a13 :: a14 :: a15 :: some v :: r) H Q := ⟨v, rfl, k⟩
theorem c_var17 {a0 a1 a2 a3 a4 a5 a6 a7 a8 a9 a10 a11 a12 a13 a14 a15 a16 : Option V} {r : L2.St} (k : Q v H) : tVar 17 (a0 :: a1 :: a2 :: a3 :: a4 :: a5 :: a6 :: a7 :: a8 :: a9 :: a10 :: a11 :: a12 :: a13 :: a14 :: a15 :: a16 :: some v :: r) H Q := ⟨v, rfl, k⟩
theorem c_var18 {a0 a1 a2 a3 a4 a5 a6 a7 a8 a9 a10 a11 a12 a13 a14 a15 a16 a17 : Option V} {r : L2.St} (k : Q v H) : tVar 18 (a0 :: a1 :: a2 :: a3 :: a4 :: a5 :: a6 :: a7 :: a8 :: a9 :: a10 :: a11 :: a12 :: a13 :: a14 :: a15 :: a16 :: a17 :: some v :: r) H Q := ⟨v, rfl, k⟩
theorem c_var19 {a0 a1 a2 a3 a4 a5 a6 a7 a8 a9 a10 a11 a12 a13 a14 a15 a16 a17 a18 : Option V} {r : L2.St} (k : Q v H) : tVar 19 (a0 :: a1 :: a2 :: a3 :: a4 :: a5 :: a6 :: a7 :: a8 :: a9 :: a10 :: a11 :: a12 :: a13 :: a14 :: a15 :: a16 :: a17 :: a18 :: some v :: r) H Q := ⟨v, rfl, k⟩
theorem c_var20 {a0 a1 a2 a3 a4 a5 a6 a7 a8 a9 a10 a11 a12 a13 a14 a15 a16 a17 a18 a19 : Option V} {r : L2.St} (k : Q v H) : tVar 20 (a0 :: a1 :: a2 :: a3 :: a4 :: a5 :: a6 :: a7 :: a8 :: a9 :: a10 :: a11 :: a12 :: a13 :: a14 :: a15 :: a16 :: a17 :: a18 :: a19 :: some v :: r) H Q := ⟨v, rfl, k⟩
theorem c_var21 {a0 a1 a2 a3 a4 a5 a6 a7 a8 a9 a10 a11 a12 a13 a14 a15 a16 a17 a18 a19 a20 : Option V} {r : L2.St} (k : Q v H) : tVar 21 (a0 :: a1 :: a2 :: a3 :: a4 :: a5 :: a6 :: a7 :: a8 :: a9 :: a10 :: a11 :: a12 :: a13 :: a14 :: a15 :: a16 :: a17 :: a18 :: a19 :: a20 :: some v :: r) H Q := ⟨v, rfl, k⟩
theorem c_var22 {a0 a1 a2 a3 a4 a5 a6 a7 a8 a9 a10 a11 a12 a13 a14 a15 a16 a17 a18 a19 a20 a21 : Option V} {r : L2.St} (k : Q v H) : tVar 22 (a0 :: a1 :: a2 :: a3 :: a4 :: a5 :: a6 :: a7 :: a8 :: a9 :: a10 :: a11 :: a12 :: a13 :: a14 :: a15 :: a16 :: a17 :: a18 :: a19 :: a20 :: a21 :: some v :: r) H Q := ⟨v, rfl, k⟩
theorem c_var23 {a0 a1 a2 a3 a4 a5 a6 a7 a8 a9 a10 a11 a12 a13 a14 a15 a16 a17 a18 a19 a20 a21 a22 : Option V} {r : L2.St} (k : Q v H) : tVar 23 (a0 :: a1 :: a2 :: a3 :: a4 :: a5 :: a6 :: a7 :: a8 :: a9 :: a10 :: a11 :: a12 :: a13 :: a14 :: a15 :: a16 :: a17 :: a18 :: a19 :: a20 :: a21 :: a22 :: some v :: r) H Q := ⟨v, rfl, k⟩
theorem c_c (k : Q v H) : tC v σ H Q := k
theorem c_op {r : R2} (k : ta σ H fun x H1 => tb σ H1 fun y H2 => r x y H2 Q) : tOp r ta tb σ H Q := k
theorem c_un {r : V → Hp → VK → Prop} (k : ta σ H fun x H1 => r x H1 Q) : tUn r ta σ H Q := k
theorem c_I0 {g : Int → Int → V} (k : Q (g i j) H) : rI0 g (.int i) (.int j) H Q := ⟨i, j, rfl, rfl, k⟩
theorem c_I {C : Int → Int → Prop} {g : Int → Int → V} (c : C i j) (k : Q (g i j) H) : rI C g (.int i) (.int j) H Q := ⟨i, j, rfl, rfl, c, k⟩
theorem c_U {g : Int → V} (k : Q (g i) H) : rU g (.int i) H Q := ⟨i, rfl, k⟩
theorem c_eqI (k : Q (.bl (decide (i = j))) H) : rEq (.int i) (.int j) H Q := ⟨rfl, by simpa using k⟩
theorem c_neI (k : Q (.bl (!decide (i = j))) H) : rNe (.int i) (.int j) H Q := ⟨rfl, by simpa using k⟩
theorem c_eqS {a b : Str} (k : Q (.bl (decide (a = b))) H) : rEq (.str a) (.str b) H Q := ⟨rfl, by simpa using k⟩
theorem c_neS {a b : Str} (k : Q (.bl (!decide (a = b))) H) : rNe (.str a) (.str b) H Q := ⟨rfl, by simpa using k⟩
theorem c_eqB {a b : Bool} (k : Q (.bl (decide (a = b))) H) : rEq (.bl a) (.bl b) H Q := ⟨rfl, by simpa using k⟩
theorem c_neB {a b : Bool} (k : Q (.bl (!decide (a = b))) H) : rNe (.bl a) (.bl b) H Q := ⟨rfl, by simpa using k⟩
theorem c_eqIS {a : Str} (k : Q (.bl false) H) : rEq (.int i) (.str a) H Q := ⟨rfl, k⟩
theorem c_eqSI {a : Str} (k : Q (.bl false) H) : rEq (.str a) (.int i) H Q := ⟨rfl, k⟩
theorem c_isN (k : Q (.bl (decide (x = .non))) H) : rIsN x .non H Q := ⟨rfl, k⟩
theorem c_notN (k : Q (.bl (!decide (x = .non))) H) : rNotN x .non H Q := ⟨rfl, k⟩
theorem c_test (k : te σ H fun x H' => ∃ k, x = .bl k ∧ QT k H') : tTest te σ H QT := k
theorem c_B (k : te σ H fun x H' => ∃ k, x = .bl k ∧ QT k H') : tB te σ H QT := k
theorem c_bl {b : Bool} {P : Bool → Prop} (k : P b) : ∃ k, V.bl b = .bl k ∧ P k := ⟨b, rfl, k⟩
theorem c_tru (k : te σ H fun x H' => ∃ k, TruV K x H' k ∧ QT k H') : tTru K te σ H QT := k
theorem c_andT (k : tt σ H fun c H1 => if c = true then tu σ H1 QT else QT false H1) : tAnd tt tu σ H QT := k
theorem c_orT (k : tt σ H fun c H1 => if c = true then QT true H1 else tu σ H1 QT) : tOr tt tu σ H QT := k
theorem c_notT (k : tt σ H fun c H1 => QT (!c) H1) : tNot tt σ H QT := k
/-- a test that leaves the heap as it is answers b -/
def An (t : TT) (σ : L2.St) (H : Hp) (b : Bool) : Prop := ∀ QT : Bool → Hp → Prop, QT b H → t σ H QT
theorem c_andP {a b : Bool} (h1 : An tt σ H a) (h2 : a = true → An tu σ H b) (k : QT (a && b) H) : tAnd tt tu σ H QT := h1 _ (by
  cases a
  · exact k
  · exact h2 rfl _ k)
theorem c_orP {a b : Bool} (h1 : An tt σ H a) (h2 : a = false → An tu σ H b) (k : QT (a || b) H) : tOr tt tu σ H QT := h1 _ (by
  cases a
  · exact h2 rfl _ k
  · exact k)
theorem c_andV (k : ta σ H fun x H1 => ∃ c, x = .bl c ∧ if c = true then tb σ H1 Q else Q (.bl false) H1) : tAndV ta tb σ H Q := k
theorem c_orV (k : ta σ H fun x H1 => ∃ c, x = .bl c ∧ if c = true then Q (.bl true) H1 else tb σ H1 Q) : tOrV ta tb σ H Q := k
theorem c_notV (k : ta σ H fun x H1 => ∃ c, x = .bl c ∧ Q (.bl (!c)) H1) : tNotV ta σ H Q := k
theorem c_if (k : tt σ H fun c H1 => if c = true then ta σ H1 Q else tb σ H1 Q) : tIf tt ta tb σ H Q := k
theorem c_ite {A B : Prop} (h1 : P → A) (h2 : ¬ P → B) : if decide P = true then A else B := by
  by_cases h : P
  · rw [if_pos (decide_eq_true h)]; exact h1 h
  · rw [if_neg (by simpa using h)]; exact h2 h
theorem c_iteN {A B : Prop} (h1 : ¬ P → A) (h2 : P → B) : if (!decide P) = true then A else B := by
  by_cases h : P
  · rw [if_neg (by simpa using h)]; exact h2 h
  · rw [if_pos (by simpa using h)]; exact h1 h
theorem c_iteb {b : Bool} {A B : Prop} (h1 : b = true → A) (h2 : b = false → B) : if b = true then A else B := by
  cases b
  · exact h2 rfl
  · exact h1 rfl
theorem c_iteT {A B : Prop} (h : A) : if true = true then A else B := h
theorem c_iteF {A B : Prop} (h : B) : if false = true then A else B := h
theorem c_iteKT {b : Bool} {A B : Prop} (e : b = true) (h : A) : if b = true then A else B := by rw [if_pos e]; exact h
theorem c_iteKF {b : Bool} {A B : Prop} (e : b = false) (h : B) : if b = true then A else B := by rw [if_neg (by rw [e]; decide)]; exact h
theorem c_iteNT {A B : Prop} (h : B) : if (!true) = true then A else B := h
theorem c_iteNF {A B : Prop} (h : A) : if (!false) = true then A else B := h
theorem c_nil (k : QA [] H) : tNil σ H QA := k
theorem c_cons (k : ta σ H fun x H1 => tr σ H1 fun xs H2 => QA (x :: xs) H2) : tCons ta tr σ H QA := k
theorem c_CB {r : List V → Hp → VK → Prop} (k : tr σ H fun vs H1 => r vs H1 Q) : tCB r tr σ H Q := k
theorem c_int1 (k : Q (.int i) H) : rInt1 [.int i] H Q := .inl ⟨i, rfl, k⟩
theorem c_int1b {b : Bool} (k : Q (.int (if b then 1 else 0)) H) : rInt1 [.bl b] H Q := .inr ⟨b, rfl, k⟩
theorem c_bool1 (k : Q (.bl (i != 0)) H) : rBool1 [.int i] H Q := .inl ⟨i, rfl, k⟩
theorem c_abs1 (k : Q (.int (if i < 0 then -i else i)) H) : rAbs1 [.int i] H Q := ⟨i, rfl, k⟩
theorem c_min2 (k : Q (.int (min i j)) H) : rMin2 [.int i, .int j] H Q := ⟨i, j, rfl, by
  have e : (if j < i then j else i) = min i j := by split <;> omega
  rw [e]; exact k⟩
theorem c_max2 (k : Q (.int (max i j)) H) : rMax2 [.int i, .int j] H Q := ⟨i, j, rfl, by
  have e : (if j > i then j else i) = max i j := by split <;> omega
  rw [e]; exact k⟩
theorem c_lenL {a : Addr} {xs : List V} (h : SqL K H a xs) (k : Q (.int xs.length) H) : rLen K [.ref a] H Q := ⟨.ref a, xs.length, rfl, .inl ⟨xs, h, rfl⟩, k⟩
theorem c_lenT {a : Addr} {xs : List V} (h : SqT K H a xs) (k : Q (.int xs.length) H) : rLen K [.ref a] H Q := ⟨.ref a, xs.length, rfl, .inr ⟨xs, h, rfl⟩, k⟩
theorem c_lenS {z : Str} (h : z.length ≤ sizeLine) (k : Q (.int z.length) H) : rLen K [.str z] H Q := ⟨.str z, z.length, rfl, ⟨h, rfl⟩, k⟩
theorem c_call {sp : Sp} {dvs : List V} {E : XK} (k : tr σ H fun vs H1 => sp (vs ++ dvs) H1 Q E) : tCall sp dvs E tr σ H Q := k
/-- statements -/
theorem c_seq (k : t { D with nx := u D } σ H) : tSeq t u D σ H := k
theorem c_seqAsg (k : te σ H fun x H1 => u D (σ.set n (some x)) H1) : tSeq (tAsg te (gName n)) u D σ H := k
theorem c_seqIf (k : tt σ H fun b H1 => if b = true then t { D with nx := u D } σ H1 else w { D with nx := u D } σ H1) : tSeq (tIfS tt t w) u D σ H := k
/-- an if without else whose branch does not come back is one with the rest behind it -/
theorem c_seqWhen (k : tt σ H fun b H1 => if b = true then t { D with nx := u D } σ H1 else u D σ H1) : tSeq (tIfS tt t tNext) u D σ H := k
theorem cut (M : L2.St → Hp → Prop) (h : t { D with nx := M } σ H) (k : ∀ σ' H', M σ' H' → u D σ' H') : Evl.tCut t u D σ H := ⟨M, h, k⟩
theorem cutA (h : t { D with nx := u D } σ H) : Evl.tCut t u D σ H := ⟨u D, h, fun _ _ q => q⟩
theorem c_ifS (k : tt σ H fun b H1 => if b = true then t D σ H1 else w D σ H1) : tIfS tt t w D σ H := k
theorem c_ret (k : te σ H D.rt) : tRet te D σ H := k
theorem c_retN (k : D.rt .non H) : tRetN D σ H := k
theorem c_asg {g : TG} (k : te σ H fun x H1 => g x σ H1 D.nx) : tAsg te g D σ H := k
theorem c_asgN (k : te σ H fun x H1 => D.nx (σ.set n (some x)) H1) : tAsg te (gName n) D σ H := k
theorem c_drop (k : te σ H fun _ H1 => D.nx σ H1) : tDrop te D σ H := k
theorem c_next (k : D.nx σ H) : tNext D σ H := k
theorem c_break (k : D.bk σ H) : tBreak D σ H := k
theorem c_cont (k : D.ct σ H) : tCont D σ H := k
theorem c_aug {ti : TIp} (h : σ[n]? = some (some x)) (k : te σ H fun y H1 => ti x y H1 fun z H2 => D.nx (σ.set n (some z)) H2) : tAug n te ti D σ H := ⟨x, h, k⟩
theorem c_ipI {f : Int → Int → Int} (k : Q (.int (f i j)) H) : ipI f (.int i) (.int j) H Q := ⟨i, j, rfl, rfl, k⟩
/-- new objects -/
theorem c_tup (k : tr σ H fun xs H1 => xs.length ≤ sizeLine ∧ NewO (.tup xs) Q H1) : tTup tr σ H Q := k
theorem c_lst (k : tr σ H fun xs H1 => xs.length ≤ sizeLine ∧ NewO (.lst xs) Q H1) : tLst tr σ H Q := k
theorem c_new1 {o : HO} (k : ∀ p H1, H p = none → Same H H1 → H1 p = some o → Q (.ref p) H1) : NewO o Q H :=
  fun p hp => k p _ hp (Same.new hp) upd_same
theorem c_new {o : HO} {B : Prop} (hb : B) (k : ∀ p H1, H p = none → Same H H1 → H1 p = some o → Q (.ref p) H1) : B ∧ NewO o Q H := ⟨hb, c_new1 k⟩
/-- lists -/
theorem c_ixL {p : Addr} {xs : List V} (h : SqL K H p xs) (e : atI xs i = some v) (k : Q v H) : rIxL K (.ref p) (.int i) H Q := ⟨p, xs, i, v, rfl, rfl, h, e, k⟩
theorem c_ixT {p : Addr} {xs : List V} (h : SqT K H p xs) (e : atI xs i = some v) (k : Q v H) : rIxT K (.ref p) (.int i) H Q := ⟨p, xs, i, v, rfl, rfl, h, e, k⟩
theorem c_ixS {z : Str} {c : Nat} (h : z.length ≤ sizeLine) (e : atI z.cps.toList i = some c) (k : Q (.str ⟨#[c]⟩) H) : rIxS (.str z) (.int i) H Q := ⟨z, i, c, rfl, rfl, h, e, k⟩
theorem c_setL {p : Addr} {xs : List V} {j : Nat} {QH : Hp → Prop} (h : H p = some (.lst xs)) (e : ixN xs.length i = some j) (k : ∀ H1, Mu p H H1 → H1 p = some (.lst (xs.set j v)) → QH H1) : rSetL (.ref p) (.int i) v H QH :=
  ⟨p, xs, i, j, rfl, rfl, h, e, k _ Mu.upd upd_same⟩
theorem c_gSub {to ti : TE} {ts : TSet} {QS : L2.St → Hp → Prop} (k : to σ H fun o H1 => ti σ H1 fun i H2 => ts o i v H2 fun H3 => QS σ H3) : gSub to ti ts v σ H QS := k
theorem c_BM {T : String} {r : V → List V → Hp → VK → Prop} (k : te σ H fun x H1 => tyV K T x H1 ∧ tr σ H1 fun xs H2 => r x xs H2 Q) : tBM K T r te tr σ H Q := k
theorem c_BM0 {T : String} {r : V → List V → Hp → VK → Prop} (k : te σ H fun x H1 => tyV K T x H1 ∧ r x [] H1 Q) : tBM0 K T r te σ H Q := k
theorem c_tyL {a : Addr} {xs : List V} {B : Prop} (h : H a = some (.lst xs)) (k : B) : tyV K "list" (.ref a) H ∧ B := ⟨Or.inl ⟨rfl, _, Or.inl (Or.inl h)⟩, k⟩
theorem c_append {l : Addr} {xs : List V} (h : H l = some (.lst xs)) (hz : xs.length < sizeLine) (k : ∀ H1, Mu l H H1 → H1 l = some (.lst (xs ++ [y])) → Q .non H1) : rAppend (.ref l) [y] H Q :=
  ⟨l, xs, y, rfl, rfl, h, hz, k _ Mu.upd upd_same⟩
theorem c_extend {l b : Addr} {xs zs : List V} (h : H l = some (.lst xs)) (hb : H b = some (.lst zs)) (hz : xs.length + zs.length ≤ sizeLine) (k : ∀ H1, Mu l H H1 → H1 l = some (.lst (xs ++ zs)) → Q .non H1) : rExtend (.ref l) [.ref b] H Q :=
  ⟨l, b, xs, zs, rfl, rfl, h, hb, hz, k _ Mu.upd upd_same⟩
theorem c_pop {l : Addr} {xs : List V} (h : H l = some (.lst xs)) (e : xs[xs.length - 1]? = some y) (k : ∀ H1, Mu l H H1 → H1 l = some (.lst xs.dropLast) → Q y H1) : rPop (.ref l) [] H Q :=
  ⟨l, xs, y, rfl, rfl, h, e, k _ Mu.upd upd_same⟩
theorem c_cat {l b : Addr} {xs zs : List V} (h : H l = some (.lst xs)) (hb : H b = some (.lst zs)) (hz : xs.length + zs.length ≤ sizeLine) (k : ∀ p H1, H p = none → Same H H1 → H1 p = some (.lst (xs ++ zs)) → Q (.ref p) H1) : rCat (.ref l) (.ref b) H Q :=
  ⟨l, b, xs, zs, rfl, rfl, h, hb, hz, c_new1 k⟩
theorem c_slL {a : Addr} {xs : List V} {lo hi : Option Int} (h : SqL K H a xs) (k : ∀ p H1, H p = none → Same H H1 → H1 p = some (.lst (cutV xs lo hi)) → Q (.ref p) H1) : rSlL K (.ref a) lo hi H Q :=
  ⟨a, xs, rfl, h, c_new1 k⟩
theorem c_sl {r : V → Option Int → Option Int → Hp → VK → Prop} {tl th : TO} (k : te σ H fun x H1 => tl σ H1 fun l H2 => th σ H2 fun u H3 => r x l u H3 Q) : tSl r te tl th σ H Q := k
theorem c_noPart {QO : Option Int → Hp → Prop} (k : QO none H) : tNoPart σ H QO := k
theorem c_part {QO : Option Int → Hp → Prop} (k : te σ H fun x H1 => ∃ i, x = .int i ∧ QO (some i) H1) : tPart te σ H QO := k
theorem c_exI {P : Int → Prop} (k : P i) : ∃ k, V.int i = .int k ∧ P k := ⟨i, rfl, k⟩
/-- targets -/
theorem g_name {QS : L2.St → Hp → Prop} (k : QS (σ.set n (some v)) H) : gName n v σ H QS := k
theorem g_tup {QS : L2.St → Hp → Prop} {m : Nat} {tg : TGs} {a : Addr} {xs : List V} (h : SqT K H a xs) (e : xs.length = m) (k : tg xs σ H QS) : gTup K m tg (.ref a) σ H QS := ⟨a, xs, rfl, h, e, k⟩
theorem g_cons {QS : L2.St → Hp → Prop} {g : TG} {gs : TGs} {vs : List V} (k : g v σ H fun σ' H' => gs vs σ' H' QS) : gCons g gs (v :: vs) σ H QS := ⟨v, vs, rfl, k⟩
theorem g_nil {QS : L2.St → Hp → Prop} (k : QS σ H) : gNil [] σ H QS := ⟨rfl, k⟩
end
/-! ### loops -/
section
variable {K : PySem.W.Frag} {σ : L2.St} {H : Hp} {g : TG} {tb : TS} {D : Ends} {tl : TE} {ta : TA} {a : Addr} {xs : List V} {x : V}
/-- a for over the list x -/
def FL (K : PySem.W.Frag) (g : TG) (tb : TS) (D : Ends) (x : V) (σ : L2.St) (H : Hp) : Prop := tFor (iList K (tC x)) g tb D σ H
def FT (K : PySem.W.Frag) (g : TG) (tb : TS) (D : Ends) (x : V) (σ : L2.St) (H : Hp) : Prop := tFor (iTup K (tC x)) g tb D σ H
def FR (g : TG) (tb : TS) (D : Ends) (lo : Int) (n : Nat) (σ : L2.St) (H : Hp) : Prop := ∃ W : Nat → Nat → L2.St → Hp → Prop, (∃ m, W 0 m σ H) ∧ ∀ i m σ H, W i m σ H →
  ((Itr lo n).stop i H ∧ D.nx σ H) ∨ ((Itr lo n).go i H ∧ ∃ N : L2.St → Hp → Prop, (∀ σ' H', N σ' H' → ∃ m', m' < m ∧ W (i + 1) m' σ' H') ∧ ∀ x H', (Itr lo n).yld i H x H' → g x σ H' fun σ2 H2 => tb { D with nx := N, ct := N, bk := D.nx } σ2 H2)
theorem c_forL (k : tl σ H fun x H1 => FL K g tb D x σ H1) : tFor (iList K tl) g tb D σ H := k
theorem c_forT (k : tl σ H fun x H1 => FT K g tb D x σ H1) : tFor (iTup K tl) g tb D σ H := k
def bnd62 (i : Int) : Prop := -(2 ^ 62) ≤ i ∧ i < 2 ^ 62
theorem c_forR1 (k : ta σ H fun vs H1 => ∃ j : Int, vs = [.int j] ∧ bnd62 j ∧ FR g tb D 0 j.toNat σ H1) : tFor (iRng1 ta) g tb D σ H := by
  have e : (fun (vs : List V) (H1 : Hp) => ∃ j : Int, vs = [V.int j] ∧ bnd62 j ∧ FR g tb D 0 j.toNat σ H1) = fun vs H1 => ∃ j : Int, vs = [.int j] ∧ -(2 ^ 62) ≤ j ∧ j < 2 ^ 62 ∧ FR g tb D 0 j.toNat σ H1 := by
    funext vs H1
    simp only [bnd62, and_assoc]
  rw [e] at k
  exact k
theorem c_forR2 (k : ta σ H fun vs H1 => ∃ i j : Int, vs = [.int i, .int j] ∧ (bnd62 i ∧ bnd62 j) ∧ FR g tb D i (j - i).toNat σ H1) : tFor (iRng2 ta) g tb D σ H := by
  have e : (fun (vs : List V) (H1 : Hp) => ∃ i j : Int, vs = [V.int i, V.int j] ∧ (bnd62 i ∧ bnd62 j) ∧ FR g tb D i (j - i).toNat σ H1) = fun vs H1 => ∃ i j : Int, vs = [.int i, .int j] ∧ (-(2 ^ 62) ≤ i ∧ i < 2 ^ 62 ∧ -(2 ^ 62) ≤ j ∧ j < 2 ^ 62) ∧ FR g tb D i (j - i).toNat σ H1 := by
    funext vs H1
    simp only [bnd62, and_assoc]
  rw [e] at k
  exact k
theorem fr_in1 {j : Int} (h : bnd62 j) (k : FR g tb D 0 j.toNat σ H) : ∃ i : Int, [V.int j] = [.int i] ∧ bnd62 i ∧ FR g tb D 0 i.toNat σ H := ⟨j, rfl, h, k⟩
theorem fr_in2 {i j : Int} (h : bnd62 i ∧ bnd62 j) (k : FR g tb D i (j - i).toNat σ H) : ∃ i' j' : Int, [V.int i, V.int j] = [.int i', .int j'] ∧ (bnd62 i' ∧ bnd62 j') ∧ FR g tb D i' (j' - i').toNat σ H := ⟨i, j, rfl, h, k⟩
theorem bnd_small {n : Nat} (h : n ≤ 1000000000) : bnd62 (n : Int) := ⟨by omega, by omega⟩
theorem bnd_of {i : Int} (h : -1000000000000 ≤ i) (h' : i ≤ 1000000000000) : bnd62 i := ⟨by omega, by omega⟩
theorem fl_use (h : SqL K H a xs) (Pv : Nat → L2.St → Hp → Prop) (h0 : Pv 0 σ H) (hl : ∀ i σ H, i ≤ xs.length → Pv i σ H → SqL K H a xs)
    (hs : ∀ i x σ H, xs[i]? = some x → Pv i σ H → g x σ H fun σ2 H2 => tb { D with nx := Pv (i + 1), ct := Pv (i + 1), bk := D.nx } σ2 H2) (hd : ∀ σ H, Pv xs.length σ H → D.nx σ H) : FL K g tb D (.ref a) σ H :=
  ⟨a, rfl, ⟨xs, h⟩, for_list Pv h0 hl hs hd⟩
/-- .. where all that stood stays -/
theorem fl_s (h : SqL K H a xs) (Pv : Nat → L2.St → Hp → Prop) (h0 : Pv 0 σ H)
    (hs : ∀ i x σ' H', xs[i]? = some x → Same H H' → Pv i σ' H' → g x σ' H' fun σ2 H2 => tb { D with nx := fun σ3 H3 => Same H H3 ∧ Pv (i + 1) σ3 H3, ct := fun σ3 H3 => Same H H3 ∧ Pv (i + 1) σ3 H3, bk := D.nx } σ2 H2) (hd : ∀ σ' H', Same H H' → Pv xs.length σ' H' → D.nx σ' H') : FL K g tb D (.ref a) σ H :=
  fl_use h (fun i σ' H' => Same H H' ∧ Pv i σ' H') ⟨Same.refl H, h0⟩ (fun _ _ _ _ p => p.1.seq h) (fun i x σ' H' e p => hs i x σ' H' e p.1 p.2) fun σ' H' p => hd σ' H' p.1 p.2
theorem ft_use (h : SqT K H a xs) (Pv : Nat → L2.St → Hp → Prop) (h0 : Pv 0 σ H) (hl : ∀ i σ H, i ≤ xs.length → Pv i σ H → SqT K H a xs)
    (hs : ∀ i x σ H, xs[i]? = some x → Pv i σ H → g x σ H fun σ2 H2 => tb { D with nx := Pv (i + 1), ct := Pv (i + 1), bk := D.nx } σ2 H2) (hd : ∀ σ H, Pv xs.length σ H → D.nx σ H) : FT K g tb D (.ref a) σ H :=
  ⟨a, rfl, ⟨xs, h⟩, for_tup Pv h0 hl hs hd⟩
theorem ft_s (h : SqT K H a xs) (Pv : Nat → L2.St → Hp → Prop) (h0 : Pv 0 σ H)
    (hs : ∀ i x σ' H', xs[i]? = some x → Same H H' → Pv i σ' H' → g x σ' H' fun σ2 H2 => tb { D with nx := fun σ3 H3 => Same H H3 ∧ Pv (i + 1) σ3 H3, ct := fun σ3 H3 => Same H H3 ∧ Pv (i + 1) σ3 H3, bk := D.nx } σ2 H2) (hd : ∀ σ' H', Same H H' → Pv xs.length σ' H' → D.nx σ' H') : FT K g tb D (.ref a) σ H :=
  ft_use h (fun i σ' H' => Same H H' ∧ Pv i σ' H') ⟨Same.refl H, h0⟩ (fun _ _ _ _ p => sqt_s p.1 h) (fun i x σ' H' e p => hs i x σ' H' e p.1 p.2) fun σ' H' p => hd σ' H' p.1 p.2
/-- a loop as a fold: f what the items are, step what a turn makes of the state -/
theorem fl_g {α β : Type} (f : α → V) (ys : List α) (step : β → α → β) (s0 : β) (h : SqL K H a (ys.map f)) (Pv : β → L2.St → Hp → Prop) (hl : ∀ s σ' H', Pv s σ' H' → SqL K H' a (ys.map f)) (h0 : Pv s0 σ H)
    (hs : ∀ s y σ' H', y ∈ ys → Pv s σ' H' → g (f y) σ' H' fun σ2 H2 => tb { D with nx := fun σ3 H3 => Pv (step s y) σ3 H3, ct := fun σ3 H3 => Pv (step s y) σ3 H3, bk := D.nx } σ2 H2) (hd : ∀ σ' H', Pv (ys.foldl step s0) σ' H' → D.nx σ' H') : FL K g tb D (.ref a) σ H := by
  refine fl_use h (fun i σ' H' => Pv ((ys.take i).foldl step s0) σ' H') (by simpa using h0) (fun i σ' H' _ p => hl _ σ' H' p) (fun i x σ' H' e p => ?_) fun σ' H' p => ?_
  · rw [List.getElem?_map] at e
    cases e2 : ys[i]? with
    | none => rw [e2] at e; cases e
    | some y =>
      rw [e2] at e
      cases e
      have e3 : (ys.take (i + 1)).foldl step s0 = step ((ys.take i).foldl step s0) y := by rw [List.take_add_one, e2, List.foldl_append]; rfl
      rw [e3]
      exact hs _ y σ' H' (List.mem_of_getElem? e2) p
  · rw [List.length_map, List.take_length] at p
    exact hd σ' H' p
theorem fl_f {α β : Type} (f : α → V) (ys : List α) (step : β → α → β) (s0 : β) (h : SqL K H a (ys.map f)) (Pv : β → L2.St → Hp → Prop) (h0 : Pv s0 σ H)
    (hs : ∀ s y σ' H', y ∈ ys → Same H H' → Pv s σ' H' → g (f y) σ' H' fun σ2 H2 => tb { D with nx := fun σ3 H3 => Same H H3 ∧ Pv (step s y) σ3 H3, ct := fun σ3 H3 => Same H H3 ∧ Pv (step s y) σ3 H3, bk := D.nx } σ2 H2) (hd : ∀ σ' H', Same H H' → Pv (ys.foldl step s0) σ' H' → D.nx σ' H') : FL K g tb D (.ref a) σ H :=
  fl_g f ys step s0 h (fun s σ' H' => Same H H' ∧ Pv s σ' H') (fun _ _ _ p => p.1.seq h) ⟨Same.refl H, h0⟩ (fun s y σ' H' m p => hs s y σ' H' m p.1 p.2) fun σ' H' p => hd σ' H' p.1 p.2
theorem ft_g {α β : Type} (f : α → V) (ys : List α) (step : β → α → β) (s0 : β) (h : SqT K H a (ys.map f)) (Pv : β → L2.St → Hp → Prop) (hl : ∀ s σ' H', Pv s σ' H' → SqT K H' a (ys.map f)) (h0 : Pv s0 σ H)
    (hs : ∀ s y σ' H', y ∈ ys → Pv s σ' H' → g (f y) σ' H' fun σ2 H2 => tb { D with nx := fun σ3 H3 => Pv (step s y) σ3 H3, ct := fun σ3 H3 => Pv (step s y) σ3 H3, bk := D.nx } σ2 H2) (hd : ∀ σ' H', Pv (ys.foldl step s0) σ' H' → D.nx σ' H') : FT K g tb D (.ref a) σ H := by
  refine ft_use h (fun i σ' H' => Pv ((ys.take i).foldl step s0) σ' H') (by simpa using h0) (fun i σ' H' _ p => hl _ σ' H' p) (fun i x σ' H' e p => ?_) fun σ' H' p => ?_
  · rw [List.getElem?_map] at e
    cases e2 : ys[i]? with
    | none => rw [e2] at e; cases e
    | some y =>
      rw [e2] at e
      cases e
      have e3 : (ys.take (i + 1)).foldl step s0 = step ((ys.take i).foldl step s0) y := by rw [List.take_add_one, e2, List.foldl_append]; rfl
      rw [e3]
      exact hs _ y σ' H' (List.mem_of_getElem? e2) p
  · rw [List.length_map, List.take_length] at p
    exact hd σ' H' p
theorem fr_use {lo : Int} {n : Nat} (Pv : Nat → L2.St → Hp → Prop) (h0 : Pv 0 σ H) (hs : ∀ i σ H, i < n → Pv i σ H → g (.int (lo + i)) σ H fun σ2 H2 => tb { D with nx := Pv (i + 1), ct := Pv (i + 1), bk := D.nx } σ2 H2) (hd : ∀ σ H, Pv n σ H → D.nx σ H) : FR g tb D lo n σ H :=
  for_range Pv h0 hs hd
theorem fr0_use {n : Nat} (Pv : Nat → L2.St → Hp → Prop) (h0 : Pv 0 σ H) (hs : ∀ i σ H, i < n → Pv i σ H → g (.int (i : Int)) σ H fun σ2 H2 => tb { D with nx := Pv (i + 1), ct := Pv (i + 1), bk := D.nx } σ2 H2) (hd : ∀ σ H, Pv n σ H → D.nx σ H) : FR g tb D 0 n σ H :=
  fr_use Pv h0 (fun i σ H hi p => by rw [Int.zero_add]; exact hs i σ H hi p) hd
end
/-! ### isinstance -/
section
variable {K : PySem.W.Frag} {H : Hp} {Q : VK} {i : Int} {b : Bool} {z : Str} {a : Addr} {xs : List V}
theorem c_isi {x : V} {t : Value} {n : String} {b : Bool} (ty : TyX K H x t) (e : PySem.W.kitOne K t (.type n) = some b) (k : Q (.bl b) H) : rIsi K [x, .ty n] H Q := ⟨x, .ty n, t, .type n, b, rfl, .ty n, ty, e, k⟩
theorem isi_int_int (k : Q (.bl true) H) : rIsi K [.int i, .ty "int"] H Q := c_isi (.base (.int _)) (kit_ty (by decide +kernel)) k
theorem isi_int_bool (k : Q (.bl false) H) : rIsi K [.int i, .ty "bool"] H Q := c_isi (.base (.int _)) (kit_ty (by decide +kernel)) k
theorem isi_int_tuple (k : Q (.bl false) H) : rIsi K [.int i, .ty "tuple"] H Q := c_isi (.base (.int _)) (kit_ty (by decide +kernel)) k
theorem isi_int_list (k : Q (.bl false) H) : rIsi K [.int i, .ty "list"] H Q := c_isi (.base (.int _)) (kit_ty (by decide +kernel)) k
theorem isi_int_str (k : Q (.bl false) H) : rIsi K [.int i, .ty "str"] H Q := c_isi (.base (.int _)) (kit_ty (by decide +kernel)) k
theorem isi_bl_int (k : Q (.bl true) H) : rIsi K [.bl b, .ty "int"] H Q := c_isi (.base (.bl _)) (kit_ty (by decide +kernel)) k
theorem isi_bl_bool (k : Q (.bl true) H) : rIsi K [.bl b, .ty "bool"] H Q := c_isi (.base (.bl _)) (kit_ty (by decide +kernel)) k
theorem isi_bl_tuple (k : Q (.bl false) H) : rIsi K [.bl b, .ty "tuple"] H Q := c_isi (.base (.bl _)) (kit_ty (by decide +kernel)) k
theorem isi_bl_list (k : Q (.bl false) H) : rIsi K [.bl b, .ty "list"] H Q := c_isi (.base (.bl _)) (kit_ty (by decide +kernel)) k
theorem isi_bl_str (k : Q (.bl false) H) : rIsi K [.bl b, .ty "str"] H Q := c_isi (.base (.bl _)) (kit_ty (by decide +kernel)) k
theorem isi_str_int (k : Q (.bl false) H) : rIsi K [.str z, .ty "int"] H Q := c_isi (.base (.str _)) (kit_ty (by decide +kernel)) k
theorem isi_str_bool (k : Q (.bl false) H) : rIsi K [.str z, .ty "bool"] H Q := c_isi (.base (.str _)) (kit_ty (by decide +kernel)) k
theorem isi_str_tuple (k : Q (.bl false) H) : rIsi K [.str z, .ty "tuple"] H Q := c_isi (.base (.str _)) (kit_ty (by decide +kernel)) k
theorem isi_str_list (k : Q (.bl false) H) : rIsi K [.str z, .ty "list"] H Q := c_isi (.base (.str _)) (kit_ty (by decide +kernel)) k
theorem isi_str_str (k : Q (.bl true) H) : rIsi K [.str z, .ty "str"] H Q := c_isi (.base (.str _)) (kit_ty (by decide +kernel)) k
theorem tyx_t (h : SqT K H a xs) : TyX K H (.ref a) (.type "tuple") := by
  rcases h with (h | ⟨o, h⟩) | ⟨o, its, n, h, c, _⟩
  · exact .base (.tup h)
  · exact .fTuple h
  · exact .kTuple h c
theorem tyx_l (h : SqL K H a xs) : TyX K H (.ref a) (.type "list") := by
  rcases h with (h | ⟨o, h⟩) | ⟨o, its, n, h, c, _⟩
  · exact .base (.lst h)
  · exact .base (.frz h)
  · exact .kList h c
theorem isi_t_tuple (h : SqT K H a xs) (k : Q (.bl true) H) : rIsi K [.ref a, .ty "tuple"] H Q := c_isi (tyx_t h) (kit_ty (by decide +kernel)) k
theorem isi_t_list (h : SqT K H a xs) (k : Q (.bl false) H) : rIsi K [.ref a, .ty "list"] H Q := c_isi (tyx_t h) (kit_ty (by decide +kernel)) k
theorem isi_t_int (h : SqT K H a xs) (k : Q (.bl false) H) : rIsi K [.ref a, .ty "int"] H Q := c_isi (tyx_t h) (kit_ty (by decide +kernel)) k
theorem isi_t_bool (h : SqT K H a xs) (k : Q (.bl false) H) : rIsi K [.ref a, .ty "bool"] H Q := c_isi (tyx_t h) (kit_ty (by decide +kernel)) k
theorem isi_t_str (h : SqT K H a xs) (k : Q (.bl false) H) : rIsi K [.ref a, .ty "str"] H Q := c_isi (tyx_t h) (kit_ty (by decide +kernel)) k
theorem isi_l_tuple (h : SqL K H a xs) (k : Q (.bl false) H) : rIsi K [.ref a, .ty "tuple"] H Q := c_isi (tyx_l h) (kit_ty (by decide +kernel)) k
theorem isi_l_list (h : SqL K H a xs) (k : Q (.bl true) H) : rIsi K [.ref a, .ty "list"] H Q := c_isi (tyx_l h) (kit_ty (by decide +kernel)) k
theorem isi_l_int (h : SqL K H a xs) (k : Q (.bl false) H) : rIsi K [.ref a, .ty "int"] H Q := c_isi (tyx_l h) (kit_ty (by decide +kernel)) k
theorem isi_l_bool (h : SqL K H a xs) (k : Q (.bl false) H) : rIsi K [.ref a, .ty "bool"] H Q := c_isi (tyx_l h) (kit_ty (by decide +kernel)) k
theorem isi_l_str (h : SqL K H a xs) (k : Q (.bl false) H) : rIsi K [.ref a, .ty "str"] H Q := c_isi (tyx_l h) (kit_ty (by decide +kernel)) k
theorem isi_non_int (k : Q (.bl false) H) : rIsi K [.non, .ty "int"] H Q := c_isi (.base .non) (kit_ty (by decide +kernel)) k
theorem isi_non_bool (k : Q (.bl false) H) : rIsi K [.non, .ty "bool"] H Q := c_isi (.base .non) (kit_ty (by decide +kernel)) k
theorem isi_non_tuple (k : Q (.bl false) H) : rIsi K [.non, .ty "tuple"] H Q := c_isi (.base .non) (kit_ty (by decide +kernel)) k
theorem isi_non_list (k : Q (.bl false) H) : rIsi K [.non, .ty "list"] H Q := c_isi (.base .non) (kit_ty (by decide +kernel)) k
theorem isi_non_str (k : Q (.bl false) H) : rIsi K [.non, .ty "str"] H Q := c_isi (.base .non) (kit_ty (by decide +kernel)) k
end
/-! ### lists of ints compared, summed -/
section
variable {K : PySem.W.Frag} {H : Hp} {Q : VK} {a b : Addr} {xs ys : List V} {ns ms : List Int}
theorem shaped_ints : ∀ ns : List Int, PyData.canLayAll0 (ns.map PyData.int) = true ∧ PyData.depthAll (ns.map PyData.int) = 0
  | [] => ⟨rfl, rfl⟩
  | n :: ns => by
    have h := shaped_ints ns
    simp only [List.map_cons, PyData.canLayAll0, PyData.canLay0, PyData.depthAll, PyData.depth, h.1, h.2]
    exact ⟨rfl, rfl⟩
theorem shaped_listI (ns : List Int) : SeqAt.shaped (.list (ns.map PyData.int)) = true := by
  have h := shaped_ints ns
  unfold SeqAt.shaped
  simp [PyData.canLay0, PyData.depth, h.1, h.2]
theorem eqv_ints : ∀ ns ms : List Int, PyData.eqvAll (ns.map PyData.int) (ms.map PyData.int) = decide (ns = ms)
  | [], [] => by simp [PyData.eqvAll]
  | [], _ :: _ => by simp [PyData.eqvAll]
  | _ :: _, [] => by simp [PyData.eqvAll]
  | n :: ns, m :: ms => by
    simp only [List.map_cons, PyData.eqvAll, PyData.eqv, eqv_ints ns ms]
    by_cases h : n = m <;> simp [h]
theorem c_eqLI (ha : SqL K H a xs) (hb : SqL K H b ys) (ea : xs = ns.map V.int) (eb : ys = ms.map V.int) (k : Q (.bl (decide (ns = ms))) H) : rEqD K (.ref a) (.ref b) H Q := by
  subst ea eb
  refine ⟨.list (ns.map .int), .list (ms.map .int), .lst ha (DpAll.ints ns), .lst hb (DpAll.ints ms), shaped_listI ns, shaped_listI ms, ?_⟩
  have e : PyData.eqv (.list (ns.map .int)) (.list (ms.map .int)) = decide (ns = ms) := by
    simp only [PyData.eqv]
    exact eqv_ints ns ms
  rw [e]
  exact k
theorem c_sum (h : SqL K H a xs) (e : xs = ns.map V.int) (k : Q (.int ns.sum) H) : rSum K [.ref a] H Q := by
  subst e
  exact ⟨a, ns, rfl, h, k⟩
end
/-! ### slices -/
theorem cutV_take {xs : List V} {j : Int} (h : 0 ≤ j) : cutV xs none (some j) = xs.take j.toNat := by
  have e : HT.sIx xs.length xs.length (some j) = min j.toNat xs.length := by
    show (if j < 0 then (j + (xs.length : Int)).toNat else min j.toNat xs.length) = min j.toNat xs.length
    rw [if_neg (by omega)]
  unfold cutV
  rw [e]
  show (xs.drop 0).take (min j.toNat xs.length - 0) = xs.take j.toNat
  rw [List.drop_zero, Nat.sub_zero]
  by_cases g : j.toNat ≤ xs.length
  · rw [Nat.min_eq_left g]
  · rw [Nat.min_eq_right (by omega), List.take_of_length_le (Nat.le_refl _), List.take_of_length_le (by omega)]
theorem cutV_drop {xs : List V} {j : Int} (h : 0 ≤ j) : cutV xs (some j) none = xs.drop j.toNat := by
  have e : HT.sIx xs.length 0 (some j) = min j.toNat xs.length := by
    show (if j < 0 then (j + (xs.length : Int)).toNat else min j.toNat xs.length) = min j.toNat xs.length
    rw [if_neg (by omega)]
  unfold cutV
  rw [e]
  show (xs.drop (min j.toNat xs.length)).take (xs.length - min j.toNat xs.length) = xs.drop j.toNat
  by_cases g : j.toNat ≤ xs.length
  · rw [Nat.min_eq_left g, List.take_of_length_le (by rw [List.length_drop]; omega)]
  · rw [Nat.min_eq_right (by omega), List.drop_of_length_le (Nat.le_refl _), List.drop_of_length_le (by omega)]; simp
/-! ### ends -/
theorem sqt_is {K : PySem.W.Frag} {H : Hp} {a : Addr} {xs ys : List V} (h : SqT K H a xs) (e : xs = ys) : SqT K H a ys := e ▸ h
theorem lst_is {H : Hp} {a : Addr} {xs ys : List V} (h : H a = some (.lst xs)) (e : xs = ys) : H a = some (.lst ys) := e ▸ h
section
variable {Q : VK} {H : Hp}
theorem q_int {a b : Int} (k : Q (.int a) H) (e : a = b) : Q (.int b) H := e ▸ k
theorem q_bl {a b : Bool} (k : Q (.bl a) H) (e : a = b) : Q (.bl b) H := e ▸ k
theorem q_str {a b : Str} (k : Q (.str a) H) (e : a = b) : Q (.str b) H := e ▸ k
end
/-! ### small words -/
theorem fm {a b : Int} (h : 0 < b) : 0 ≤ a.fmod b ∧ a.fmod b < b := by
  rw [Int.fmod_eq_emod_of_nonneg _ (by omega)]
  exact ⟨Int.emod_nonneg _ (by omega), Int.emod_lt_of_pos _ h⟩
theorem cmul_fm {a b j : Int} (h : 0 < b) (h' : b ≤ 2 ^ 64) : CMul (a.fmod b) j := by
  have := fm (a := a) h
  exact .inl ⟨by omega, by omega⟩
theorem sz_small {n : Nat} (h : n ≤ 10000000) : n ≤ sizeLine := Nat.le_trans h (by rw [sizeLine_eq]; decide)
theorem sz_smallL {n : Nat} (h : n < 10000000) : n < sizeLine := Nat.lt_of_lt_of_le h (by rw [sizeLine_eq]; decide)

theorem mut_l {H : Hp} {a : Addr} {xs : List V} (h : H a = some (.lst xs)) : Mut (H a) := by rw [h]; exact trivial
theorem mut_i {H : Hp} {a C dx : Addr} {fs : List (Str × V)} (h : H a = some (.ins C dx fs)) : Mut (H a) := by rw [h]; exact trivial
theorem mut_d {H : Hp} {a : Addr} {kvs : List (Key × V)} (h : H a = some (.dK kvs)) : Mut (H a) := by rw [h]; exact trivial
/-! ### the steps as equations, for simp -/
section
variable {K : PySem.W.Frag} {σ : L2.St} {H : Hp} {Q : VK} {QT : Bool → Hp → Prop} {QA : List V → Hp → Prop} {v x y : V} {i j : Int} {n : Nat} {ta tb tc te : TE} {tt tu : TT} {tr : TA} {D : Ends} {t u w : TS}
theorem e_var0 {r : L2.St} : tVar 0 (some v :: r) H Q = Q v H := propext ⟨fun h => h.elim fun _ h => by cases h.1; exact h.2, fun h => ⟨v, rfl, h⟩⟩
theorem e_var1 {a0 : Option V} {r : L2.St} : tVar 1 (a0 :: some v :: r) H Q = Q v H := propext ⟨fun h => h.elim fun _ h => by cases h.1; exact h.2, fun h => ⟨v, rfl, h⟩⟩
theorem e_var2 {a0 a1 : Option V} {r : L2.St} : tVar 2 (a0 :: a1 :: some v :: r) H Q = Q v H := propext ⟨fun h => h.elim fun _ h => by cases h.1; exact h.2, fun h => ⟨v, rfl, h⟩⟩
theorem e_var3 {a0 a1 a2 : Option V} {r : L2.St} : tVar 3 (a0 :: a1 :: a2 :: some v :: r) H Q = Q v H := propext ⟨fun h => h.elim fun _ h => by cases h.1; exact h.2, fun h => ⟨v, rfl, h⟩⟩
theorem e_var4 {a0 a1 a2 a3 : Option V} {r : L2.St} : tVar 4 (a0 :: a1 :: a2 :: a3 :: some v :: r) H Q = Q v H := propext ⟨fun h => h.elim fun _ h => by cases h.1; exact h.2, fun h => ⟨v, rfl, h⟩⟩
theorem e_var5 {a0 a1 a2 a3 a4 : Option V} {r : L2.St} : tVar 5 (a0 :: a1 :: a2 :: a3 :: a4 :: some v :: r) H Q = Q v H := propext ⟨fun h => h.elim fun _ h => by cases h.1; exact h.2, fun h => ⟨v, rfl, h⟩⟩
theorem e_var6 {a0 a1 a2 a3 a4 a5 : Option V} {r : L2.St} : tVar 6 (a0 :: a1 :: a2 :: a3 :: a4 :: a5 :: some v :: r) H Q = Q v H := propext ⟨fun h => h.elim fun _ h => by cases h.1; exact h.2, fun h => ⟨v, rfl, h⟩⟩
theorem e_var7 {a0 a1 a2 a3 a4 a5 a6 : Option V} {r : L2.St} : tVar 7 (a0 :: a1 :: a2 :: a3 :: a4 :: a5 :: a6 :: some v :: r) H Q = Q v H := propext ⟨fun h => h.elim fun _ h => by cases h.1; exact h.2, fun h => ⟨v, rfl, h⟩⟩
theorem e_var8 {a0 a1 a2 a3 a4 a5 a6 a7 : Option V} {r : L2.St} : tVar 8 (a0 :: a1 :: a2 :: a3 :: a4 :: a5 :: a6 :: a7 :: some v :: r) H Q = Q v H := propext ⟨fun h => h.elim fun _ h => by cases h.1; exact h.2, fun h => ⟨v, rfl, h⟩⟩
theorem e_var9 {a0 a1 a2 a3 a4 a5 a6 a7 a8 : Option V} {r : L2.St} : tVar 9 (a0 :: a1 :: a2 :: a3 :: a4 :: a5 :: a6 :: a7 :: a8 :: some v :: r) H Q = Q v H := propext ⟨fun h => h.elim fun _ h => by cases h.1; exact h.2, fun h => ⟨v, rfl, h⟩⟩
theorem e_var10 {a0 a1 a2 a3 a4 a5 a6 a7 a8 a9 : Option V} {r : L2.St} : tVar 10 (a0 :: a1 :: a2 :: a3 :: a4 :: a5 :: a6 :: a7 :: a8 :: a9 :: some v :: r) H Q = Q v H := propext ⟨fun h => h.elim fun _ h => by cases h.1; exact h.2, fun h => ⟨v, rfl, h⟩⟩
theorem e_var11 {a0 a1 a2 a3 a4 a5 a6 a7 a8 a9 a10 : Option V} {r : L2.St} : tVar 11 (a0 :: a1 :: a2 :: a3 :: a4 :: a5 :: a6 :: a7 :: a8 :: a9 :: a10 :: some v :: r) H Q = Q v H := propext ⟨fun h => h.elim fun _ h => by cases h.1; exact h.2, fun h => ⟨v, rfl, h⟩⟩
theorem e_var12 {a0 a1 a2 a3 a4 a5 a6 a7 a8 a9 a10 a11 : Option V} {r : L2.St} : tVar 12 (a0 :: a1 :: a2 :: a3 :: a4 :: a5 :: a6 :: a7 :: a8 :: a9 :: a10 :: a11 :: some v :: r) H Q = Q v H := propext ⟨fun h => h.elim fun _ h => by cases h.1; exact h.2, fun h => ⟨v, rfl, h⟩⟩
theorem e_var13 {a0 a1 a2 a3 a4 a5 a6 a7 a8 a9 a10 a11 a12 : Option V} {r : L2.St} : tVar 13 (a0 :: a1 :: a2 :: a3 :: a4 :: a5 :: a6 :: a7 :: a8 :: a9 :: a10 :: a11 :: a12 :: some v :: r) H Q = Q v H := propext ⟨fun h => h.elim fun _ h => by cases h.1; exact h.2, fun h => ⟨v, rfl, h⟩⟩
theorem e_var14 {a0 a1 a2 a3 a4 a5 a6 a7 a8 a9 a10 a11 a12 a13 : Option V} {r : L2.St} : tVar 14 (a0 :: a1 :: a2 :: a3 :: a4 :: a5 :: a6 :: a7 :: a8 :: a9 :: a10 :: a11 :: a12 :: a13 :: some v :: r) H Q = Q v H := propext ⟨fun h => h.elim fun _ h => by cases h.1; exact h.2, fun h => ⟨v, rfl, h⟩⟩
theorem e_var15 {a0 a1 a2 a3 a4 a5 a6 a7 a8 a9 a10 a11 a12 a13 a14 : Option V} {r : L2.St} : tVar 15 (a0 :: a1 :: a2 :: a3 :: a4 :: a5 :: a6 :: a7 :: a8 :: a9 :: a10 :: a11 :: a12 :: a13 :: a14 :: some v :: r) H Q = Q v H := propext ⟨fun h => h.elim fun _ h => by cases h.1; exact h.2, fun h => ⟨v, rfl, h⟩⟩
theorem e_var16 {a0 a1 a2 a3 a4 a5 a6 a7 a8 a9 a10 a11 a12 a13 a14 a15 : Option V} {r : L2.St} : tVar 16 (a0 :: a1 :: a2 :: a3 :: a4 :: a5 :: a6 :: a7 :: a8 :: a9 :: a10 :: a11 :: a12 :: a13 :: a14 :: a15 :: some v :: r) H Q = Q v H := propext ⟨fun h => h.elim fun _ h => by cases h.1; exact h.2, fun h => ⟨v, rfl, h⟩⟩
theorem e_var17 {a0 a1 a2 a3 a4 a5 a6 a7 a8 a9 a10 a11 a12 a13 a14 a15 a16 : Option V} {r : L2.St} : tVar 17 (a0 :: a1 :: a2 :: a3 :: a4 :: a5 :: a6 :: a7 :: a8 :: a9 :: a10 :: a11 :: a12 :: a13 :: a14 :: a15 :: a16 :: some v :: r) H Q = Q v H := propext ⟨fun h => h.elim fun _ h => by cases h.1; exact h.2, fun h => ⟨v, rfl, h⟩⟩
theorem e_var18 {a0 a1 a2 a3 a4 a5 a6 a7 a8 a9 a10 a11 a12 a13 a14 a15 a16 a17 : Option V} {r : L2.St} : tVar 18 (a0 :: a1 :: a2 :: a3 :: a4 :: a5 :: a6 :: a7 :: a8 :: a9 :: a10 :: a11 :: a12 :: a13 :: a14 :: a15 :: a16 :: a17 :: some v :: r) H Q = Q v H := propext ⟨fun h => h.elim fun _ h => by cases h.1; exact h.2, fun h => ⟨v, rfl, h⟩⟩
theorem e_var19 {a0 a1 a2 a3 a4 a5 a6 a7 a8 a9 a10 a11 a12 a13 a14 a15 a16 a17 a18 : Option V} {r : L2.St} : tVar 19 (a0 :: a1 :: a2 :: a3 :: a4 :: a5 :: a6 :: a7 :: a8 :: a9 :: a10 :: a11 :: a12 :: a13 :: a14 :: a15 :: a16 :: a17 :: a18 :: some v :: r) H Q = Q v H := propext ⟨fun h => h.elim fun _ h => by cases h.1; exact h.2, fun h => ⟨v, rfl, h⟩⟩
theorem e_var20 {a0 a1 a2 a3 a4 a5 a6 a7 a8 a9 a10 a11 a12 a13 a14 a15 a16 a17 a18 a19 : Option V} {r : L2.St} : tVar 20 (a0 :: a1 :: a2 :: a3 :: a4 :: a5 :: a6 :: a7 :: a8 :: a9 :: a10 :: a11 :: a12 :: a13 :: a14 :: a15 :: a16 :: a17 :: a18 :: a19 :: some v :: r) H Q = Q v H := propext ⟨fun h => h.elim fun _ h => by cases h.1; exact h.2, fun h => ⟨v, rfl, h⟩⟩
theorem e_var21 {a0 a1 a2 a3 a4 a5 a6 a7 a8 a9 a10 a11 a12 a13 a14 a15 a16 a17 a18 a19 a20 : Option V} {r : L2.St} : tVar 21 (a0 :: a1 :: a2 :: a3 :: a4 :: a5 :: a6 :: a7 :: a8 :: a9 :: a10 :: a11 :: a12 :: a13 :: a14 :: a15 :: a16 :: a17 :: a18 :: a19 :: a20 :: some v :: r) H Q = Q v H := propext ⟨fun h => h.elim fun _ h => by cases h.1; exact h.2, fun h => ⟨v, rfl, h⟩⟩
theorem e_var22 {a0 a1 a2 a3 a4 a5 a6 a7 a8 a9 a10 a11 a12 a13 a14 a15 a16 a17 a18 a19 a20 a21 : Option V} {r : L2.St} : tVar 22 (a0 :: a1 :: a2 :: a3 :: a4 :: a5 :: a6 :: a7 :: a8 :: a9 :: a10 :: a11 :: a12 :: a13 :: a14 :: a15 :: a16 :: a17 :: a18 :: a19 :: a20 :: a21 :: some v :: r) H Q = Q v H := propext ⟨fun h => h.elim fun _ h => by cases h.1; exact h.2, fun h => ⟨v, rfl, h⟩⟩
theorem e_var23 {a0 a1 a2 a3 a4 a5 a6 a7 a8 a9 a10 a11 a12 a13 a14 a15 a16 a17 a18 a19 a20 a21 a22 : Option V} {r : L2.St} : tVar 23 (a0 :: a1 :: a2 :: a3 :: a4 :: a5 :: a6 :: a7 :: a8 :: a9 :: a10 :: a11 :: a12 :: a13 :: a14 :: a15 :: a16 :: a17 :: a18 :: a19 :: a20 :: a21 :: a22 :: some v :: r) H Q = Q v H := propext ⟨fun h => h.elim fun _ h => by cases h.1; exact h.2, fun h => ⟨v, rfl, h⟩⟩
theorem e_c : tC v σ H Q = (Q v H) := rfl
theorem e_op {r : R2} : tOp r ta tb σ H Q = (ta σ H fun x H1 => tb σ H1 fun y H2 => r x y H2 Q) := rfl
theorem e_un {r : V → Hp → VK → Prop} : tUn r ta σ H Q = (ta σ H fun x H1 => r x H1 Q) := rfl
theorem e_test : tTest te σ H QT = (te σ H fun x H' => ∃ k, x = .bl k ∧ QT k H') := rfl
theorem e_B : tB te σ H QT = (te σ H fun x H' => ∃ k, x = .bl k ∧ QT k H') := rfl
theorem e_tru : tTru K te σ H QT = (te σ H fun x H' => ∃ k, TruV K x H' k ∧ QT k H') := rfl
theorem e_notT : tNot tt σ H QT = (tt σ H fun c H1 => QT (!c) H1) := rfl
theorem e_andV : tAndV ta tb σ H Q = (ta σ H fun x H1 => ∃ c, x = .bl c ∧ if c = true then tb σ H1 Q else Q (.bl false) H1) := rfl
theorem e_orV : tOrV ta tb σ H Q = (ta σ H fun x H1 => ∃ c, x = .bl c ∧ if c = true then Q (.bl true) H1 else tb σ H1 Q) := rfl
theorem e_notV : tNotV ta σ H Q = (ta σ H fun x H1 => ∃ c, x = .bl c ∧ Q (.bl (!c)) H1) := rfl
theorem e_if : tIf tt ta tb σ H Q = (tt σ H fun c H1 => if c = true then ta σ H1 Q else tb σ H1 Q) := rfl
theorem e_nil : tNil σ H QA = (QA [] H) := rfl
theorem e_cons : tCons ta tr σ H QA = (ta σ H fun x H1 => tr σ H1 fun xs H2 => QA (x :: xs) H2) := rfl
theorem e_CB {r : List V → Hp → VK → Prop} : tCB r tr σ H Q = (tr σ H fun vs H1 => r vs H1 Q) := rfl
theorem e_call {sp : Sp} {dvs : List V} {E : XK} : tCall sp dvs E tr σ H Q = (tr σ H fun vs H1 => sp (vs ++ dvs) H1 Q E) := rfl
theorem e_seqAsg : tSeq (tAsg te (gName n)) u D σ H = (te σ H fun x H1 => u D (σ.set n (some x)) H1) := rfl
theorem e_seqWhen : tSeq (tIfS tt t tNext) u D σ H = (tt σ H fun b H1 => if b = true then t { D with nx := u D } σ H1 else u D σ H1) := rfl
theorem e_seqIf : tSeq (tIfS tt t w) u D σ H = (tt σ H fun b H1 => if b = true then t { D with nx := u D } σ H1 else w { D with nx := u D } σ H1) := rfl
theorem e_seqDrop : tSeq (tDrop te) u D σ H = (te σ H fun _ H1 => u D σ H1) := rfl
theorem e_seq : tSeq t u D σ H = (t { D with nx := u D } σ H) := rfl
theorem e_ifS : tIfS tt t w D σ H = (tt σ H fun b H1 => if b = true then t D σ H1 else w D σ H1) := rfl
theorem e_ret : tRet te D σ H = (te σ H D.rt) := rfl
theorem e_retN : tRetN D σ H = (D.rt .non H) := rfl
theorem e_asgN : tAsg te (gName n) D σ H = (te σ H fun x H1 => D.nx (σ.set n (some x)) H1) := rfl
theorem e_asg {g : TG} : tAsg te g D σ H = (te σ H fun x H1 => g x σ H1 D.nx) := rfl
theorem e_drop : tDrop te D σ H = (te σ H fun _ H1 => D.nx σ H1) := rfl
theorem e_next : tNext D σ H = (D.nx σ H) := rfl
theorem e_break : tBreak D σ H = (D.bk σ H) := rfl
theorem e_cont : tCont D σ H = (D.ct σ H) := rfl
theorem e_tup : tTup tr σ H Q = (tr σ H fun xs H1 => xs.length ≤ sizeLine ∧ NewO (.tup xs) Q H1) := rfl
theorem e_lst : tLst tr σ H Q = (tr σ H fun xs H1 => xs.length ≤ sizeLine ∧ NewO (.lst xs) Q H1) := rfl
theorem e_gSub {to ti : TE} {ts : TSet} {QS : L2.St → Hp → Prop} : gSub to ti ts v σ H QS = (to σ H fun o H1 => ti σ H1 fun i H2 => ts o i v H2 fun H3 => QS σ H3) := rfl
theorem e_BM {T : String} {r : V → List V → Hp → VK → Prop} : tBM K T r te tr σ H Q = (te σ H fun x H1 => tyV K T x H1 ∧ tr σ H1 fun xs H2 => r x xs H2 Q) := rfl
theorem e_BM0 {T : String} {r : V → List V → Hp → VK → Prop} : tBM0 K T r te σ H Q = (te σ H fun x H1 => tyV K T x H1 ∧ r x [] H1 Q) := rfl
theorem e_sl {r : V → Option Int → Option Int → Hp → VK → Prop} {tl th : TO} : tSl r te tl th σ H Q = (te σ H fun x H1 => tl σ H1 fun l H2 => th σ H2 fun u H3 => r x l u H3 Q) := rfl
theorem e_noPart {QO : Option Int → Hp → Prop} : tNoPart σ H QO = (QO none H) := rfl
theorem e_part {QO : Option Int → Hp → Prop} : tPart te σ H QO = (te σ H fun x H1 => ∃ i, x = .int i ∧ QO (some i) H1) := rfl
theorem e_gName {QS : L2.St → Hp → Prop} : gName n v σ H QS = (QS (σ.set n (some v)) H) := rfl
theorem e_forL {tl : TE} {g : TG} : tFor (iList K tl) g t D σ H = (tl σ H fun x H1 => FL K g t D x σ H1) := rfl
theorem e_forT {tl : TE} {g : TG} : tFor (iTup K tl) g t D σ H = (tl σ H fun x H1 => FT K g t D x σ H1) := rfl
theorem e_par {i j : Nat} : tPar i j tr D σ H = (tr σ H fun vs H1 => ∃ v w, vs = [v, w] ∧ D.nx ((σ.set i (some v)).set j (some w)) H1) := rfl
theorem e_forR1 {g : TG} : tFor (iRng1 tr) g t D σ H = (tr σ H fun vs H1 => ∃ j : Int, vs = [.int j] ∧ bnd62 j ∧ FR g t D 0 j.toNat σ H1) := by
  have e : (fun (vs : List V) (H1 : Hp) => ∃ j : Int, vs = [V.int j] ∧ bnd62 j ∧ FR g t D 0 j.toNat σ H1) = fun vs H1 => ∃ j : Int, vs = [.int j] ∧ -(2 ^ 62) ≤ j ∧ j < 2 ^ 62 ∧ FR g t D 0 j.toNat σ H1 := by
    funext vs H1
    simp only [bnd62, and_assoc]
  rw [e]
  rfl
theorem e_forR2 {g : TG} : tFor (iRng2 tr) g t D σ H = (tr σ H fun vs H1 => ∃ i j : Int, vs = [.int i, .int j] ∧ (bnd62 i ∧ bnd62 j) ∧ FR g t D i (j - i).toNat σ H1) := by
  have e : (fun (vs : List V) (H1 : Hp) => ∃ i j : Int, vs = [V.int i, V.int j] ∧ (bnd62 i ∧ bnd62 j) ∧ FR g t D i (j - i).toNat σ H1) = fun vs H1 => ∃ i j : Int, vs = [.int i, .int j] ∧ (-(2 ^ 62) ≤ i ∧ i < 2 ^ 62 ∧ -(2 ^ 62) ≤ j ∧ j < 2 ^ 62) ∧ FR g t D i (j - i).toNat σ H1 := by
    funext vs H1
    simp only [bnd62, and_assoc]
  rw [e]
  rfl
theorem e_ex1 {P : Int → Prop} : (∃ j : Int, [V.int i] = [.int j] ∧ P j) = (P i) := propext ⟨fun ⟨_, e, h⟩ => by cases e; exact h, fun h => ⟨i, rfl, h⟩⟩
theorem e_ex2 {P : Int → Int → Prop} : (∃ i' j' : Int, [V.int i, V.int j] = [.int i', .int j'] ∧ P i' j') = (P i j) := propext ⟨fun ⟨_, _, e, h⟩ => by cases e; exact h, fun h => ⟨i, j, rfl, h⟩⟩
theorem c_bnd1 {B : Prop} (h : bnd62 i) (k : B) : bnd62 i ∧ B := ⟨h, k⟩
theorem c_bnd2 {B : Prop} (h : bnd62 i) (h' : bnd62 j) (k : B) : (bnd62 i ∧ bnd62 j) ∧ B := ⟨⟨h, h'⟩, k⟩
theorem e_I0 {g : Int → Int → V} : rI0 g (.int i) (.int j) H Q = (Q (g i j) H) := propext ⟨fun ⟨_, _, e, e2, h⟩ => by cases e; cases e2; exact h, fun h => ⟨i, j, rfl, rfl, h⟩⟩
theorem e_I {C : Int → Int → Prop} {g : Int → Int → V} : rI C g (.int i) (.int j) H Q = (C i j ∧ Q (g i j) H) := propext ⟨fun ⟨_, _, e, e2, c, h⟩ => by cases e; cases e2; exact ⟨c, h⟩, fun h => ⟨i, j, rfl, rfl, h.1, h.2⟩⟩
theorem e_U {g : Int → V} : rU g (.int i) H Q = (Q (g i) H) := propext ⟨fun ⟨_, e, h⟩ => by cases e; exact h, fun h => ⟨i, rfl, h⟩⟩
theorem e_bl {b : Bool} {P : Bool → Prop} : (∃ k, V.bl b = .bl k ∧ P k) = (P b) := propext ⟨fun ⟨_, e, h⟩ => by cases e; exact h, fun h => ⟨b, rfl, h⟩⟩
theorem e_exI {P : Int → Prop} : (∃ k, V.int i = .int k ∧ P k) = (P i) := propext ⟨fun ⟨_, e, h⟩ => by cases e; exact h, fun h => ⟨i, rfl, h⟩⟩
theorem e_eqI : rEq (.int i) (.int j) H Q = (Q (.bl (decide (i = j))) H) := by unfold rEq; simp [scal]
theorem e_neI : rNe (.int i) (.int j) H Q = (Q (.bl (!decide (i = j))) H) := by unfold rNe; simp [scal]
theorem e_eqS {a b : Str} : rEq (.str a) (.str b) H Q = (Q (.bl (decide (a = b))) H) := by unfold rEq; simp [scal]
theorem e_neS {a b : Str} : rNe (.str a) (.str b) H Q = (Q (.bl (!decide (a = b))) H) := by unfold rNe; simp [scal]
theorem e_eqB {a b : Bool} : rEq (.bl a) (.bl b) H Q = (Q (.bl (decide (a = b))) H) := by unfold rEq; simp [scal]
theorem e_neB {a b : Bool} : rNe (.bl a) (.bl b) H Q = (Q (.bl (!decide (a = b))) H) := by unfold rNe; simp [scal]
theorem e_eqIS {a : Str} : rEq (.int i) (.str a) H Q = (Q (.bl false) H) := by unfold rEq; simp [scal]
theorem e_eqSI {a : Str} : rEq (.str a) (.int i) H Q = (Q (.bl false) H) := by unfold rEq; simp [scal]
theorem e_isN : rIsN x .non H Q = (Q (.bl (decide (x = .non))) H) := by unfold rIsN; simp
theorem e_notN : rNotN x .non H Q = (Q (.bl (!decide (x = .non))) H) := by unfold rNotN; simp
theorem e_int1 : rInt1 [.int i] H Q = (Q (.int i) H) := by unfold rInt1; simp
theorem e_int1b {b : Bool} : rInt1 [.bl b] H Q = (Q (.int (if b then 1 else 0)) H) := by unfold rInt1; simp
theorem e_bool1 : rBool1 [.int i] H Q = (Q (.bl (i != 0)) H) := by unfold rBool1; simp
theorem e_bool1b {b : Bool} : rBool1 [.bl b] H Q = (Q (.bl b) H) := by unfold rBool1; simp
theorem e_min2 : rMin2 [.int i, .int j] H Q = (Q (.int (min i j)) H) := by have e : (if j < i then j else i) = min i j := by { split <;> omega }; rw [← e]; exact propext ⟨fun ⟨_, _, e, h⟩ => by cases e; exact h, fun h => ⟨i, j, rfl, h⟩⟩
theorem e_max2 : rMax2 [.int i, .int j] H Q = (Q (.int (max i j)) H) := by have e : (if j > i then j else i) = max i j := by { split <;> omega }; rw [← e]; exact propext ⟨fun ⟨_, _, e, h⟩ => by cases e; exact h, fun h => ⟨i, j, rfl, h⟩⟩
theorem e_abs1 : rAbs1 [.int i] H Q = (Q (.int (if i < 0 then -i else i)) H) := by unfold rAbs1; simp
theorem e_iteT {A B : Prop} : (if true = true then A else B) = (A) := if_pos rfl
theorem e_iteF {A B : Prop} : (if false = true then A else B) = (B) := if_neg (by decide)
theorem e_gNil {QS : L2.St → Hp → Prop} : gNil [] σ H QS = (QS σ H) := by unfold gNil; simp
theorem e_gCons {QS : L2.St → Hp → Prop} {g : TG} {gs : TGs} {vs : List V} : gCons g gs (v :: vs) σ H QS = (g v σ H fun σ' H' => gs vs σ' H' QS) := propext ⟨fun ⟨_, _, e, h⟩ => by cases e; exact h, fun h => ⟨v, vs, rfl, h⟩⟩
theorem e_ipI {f : Int → Int → Int} : ipI f (.int i) (.int j) H Q = (Q (.int (f i j)) H) := propext ⟨fun ⟨_, _, e, e2, h⟩ => by cases e; cases e2; exact h, fun h => ⟨i, j, rfl, rfl, h⟩⟩
theorem e_pairs {a b : V} {P : V → V → Prop} : (∃ v w, [a, b] = [v, w] ∧ P v w) = (P a b) := propext ⟨fun ⟨_, _, e, h⟩ => by cases e; exact h, fun h => ⟨a, b, rfl, h⟩⟩
end
end R
namespace R
open PySem PySem.Spec PyProof.Rows L2
/-! ### comprehensions -/
section
variable {K : PySem.W.Frag} {σ : L2.St} {H : Hp} {Q : VK} {g : TG} {tt : TT} {te tl : TE} {tr : TA} {vs : List Nat} {a : Addr}
/-- the loop of a comprehension over what J walks -/
def LC (J : It) (g : TG) (tt : TT) (te : TE) (vs : List Nat) (σ : L2.St) (Q : VK) (H : Hp) : Prop := ∀ D, H D = none → ∃ W : Nat → Nat → Hp → Prop, (∃ m, W 0 m (upd H D (.lst []))) ∧ ∀ i m H, W i m H →
  (J.stop i H ∧ Q (.ref D) H) ∨ (J.go i H ∧ ∃ Nx : Hp → Prop, (∀ H', Nx H' → ∃ m', m' < m ∧ W (i + 1) m' H') ∧ ∀ x H', J.yld i H x H' → g x (wipe σ vs) H' fun σ2 H2 => wipe σ2 vs = wipe σ vs ∧ tt σ2 H2 fun b H3 =>
    if b = true then te σ2 H3 fun y H4 => ∃ acc, H4 D = some (.lst acc) ∧ acc.length < sizeLine ∧ Nx (upd H4 D (.lst (acc ++ [y]))) else Nx H3)
def LCL (K : PySem.W.Frag) (g : TG) (tt : TT) (te : TE) (vs : List Nat) (σ : L2.St) (Q : VK) (x : V) (H : Hp) : Prop := ∃ a, x = .ref a ∧ (∃ xs, SqL K H a xs) ∧ LC (Itl K a) g tt te vs σ Q H
def LCT (K : PySem.W.Frag) (g : TG) (tt : TT) (te : TE) (vs : List Nat) (σ : L2.St) (Q : VK) (x : V) (H : Hp) : Prop := ∃ a, x = .ref a ∧ (∃ xs, SqT K H a xs) ∧ LC (Itt K a) g tt te vs σ Q H
theorem e_lcL : tLc (iList K tl) g tt te vs σ H Q = (tl σ H fun x H1 => LCL K g tt te vs σ Q x H1) := rfl
theorem e_lcT : tLc (iTup K tl) g tt te vs σ H Q = (tl σ H fun x H1 => LCT K g tt te vs σ Q x H1) := rfl
theorem e_lcR1 : tLc (iRng1 tr) g tt te vs σ H Q = (tr σ H fun us H1 => ∃ j : Int, us = [.int j] ∧ bnd62 j ∧ LC (Itr 0 j.toNat) g tt te vs σ Q H1) := by
  have e : (fun (us : List V) (H1 : Hp) => ∃ j : Int, us = [V.int j] ∧ bnd62 j ∧ LC (Itr 0 j.toNat) g tt te vs σ Q H1) = fun us H1 => ∃ j : Int, us = [.int j] ∧ -(2 ^ 62) ≤ j ∧ j < 2 ^ 62 ∧ LC (Itr 0 j.toNat) g tt te vs σ Q H1 := by
    funext us H1
    simp only [bnd62, and_assoc]
  rw [e]
  rfl
theorem e_lcR2 : tLc (iRng2 tr) g tt te vs σ H Q = (tr σ H fun us H1 => ∃ i j : Int, us = [.int i, .int j] ∧ (bnd62 i ∧ bnd62 j) ∧ LC (Itr i (j - i).toNat) g tt te vs σ Q H1) := by
  have e : (fun (us : List V) (H1 : Hp) => ∃ i j : Int, us = [V.int i, V.int j] ∧ (bnd62 i ∧ bnd62 j) ∧ LC (Itr i (j - i).toNat) g tt te vs σ Q H1) = fun us H1 => ∃ i j : Int, us = [.int i, .int j] ∧ (-(2 ^ 62) ≤ i ∧ i < 2 ^ 62 ∧ -(2 ^ 62) ≤ j ∧ j < 2 ^ 62) ∧ LC (Itr i (j - i).toNat) g tt te vs σ Q H1 := by
    funext us H1
    simp only [bnd62, and_assoc]
  rw [e]
  rfl
theorem e_yes {QT : Bool → Hp → Prop} : tYes σ H QT = (QT true H) := rfl
/-- what one turn gives: the item y is kept (f y) with a value that R tells, or not; it must go on whatever is wanted -/
def Turn (g : TG) (tt : TT) (te : TE) (vs : List Nat) (σ : L2.St) (x : V) (b : Bool) (R : V → Hp → Prop) (H : Hp) : Prop :=
  ∀ (Pv : V → Hp → Prop) (Pn : Hp → Prop), (b = true → ∀ v H', Same H H' → R v H' → Pv v H') → (b = false → ∀ H', Same H H' → Pn H') →
    g x (wipe σ vs) H fun σ2 H2 => wipe σ2 vs = wipe σ vs ∧ tt σ2 H2 fun b H3 => if b = true then te σ2 H3 Pv else Pn H3
/-- it does not depend on what may change -/
def Firm (R : V → Hp → Prop) : Prop := (∀ v H H', Same H H' → R v H → R v H') ∧ ∀ v l H H', Mut (H l) → Mu l H H' → R v H → R v H'
theorem firm_eq (w : V) : Firm fun v _ => v = w := ⟨fun _ _ _ _ h => h, fun _ _ _ _ _ _ h => h⟩
theorem firm_dp {d : PyData} (h : imm d = true) : Firm fun v H => Dp K H v d := ⟨fun _ _ _ e p => Dp.same e p, fun _ _ _ _ m e p => Dp.mu e m h p⟩
theorem mut_lst {D : Addr} {xs : List V} (h : H D = some (.lst xs)) : Mut (H D) := by rw [h]; exact trivial
/-- the values so far -/
def Accd {α : Type} (f : α → Bool) (R : α → V → Hp → Prop) (ys : List α) (acc : List V) (H : Hp) : Prop := Paired (fun y v => R y v H) (ys.filter f) acc
theorem Paired.app {α β : Type} {F : α → β → Prop} : ∀ {l1 l2 : List α} {m1 m2 : List β}, Paired F l1 m1 → Paired F l2 m2 → Paired F (l1 ++ l2) (m1 ++ m2)
  | _, _, _, _, .nil, s => s
  | _, _, _, _, .cons r t, s => .cons r (Paired.app t s)
theorem Accd.len {α : Type} {f : α → Bool} {R : α → V → Hp → Prop} {ys : List α} {acc : List V} (h : Accd f R ys acc H) : acc.length ≤ ys.length := by
  have := Paired.length h
  have := List.length_filter_le f ys
  omega
theorem turn_go {α : Type} {f : α → Bool} {R : α → V → Hp → Prop} (hR : ∀ y, Firm (R y)) {ys : List α} {y : α} {acc : List V} {x : V} {D : Addr} {H0 H1 : Hp} (hz : ys.length < 10000000)
    (h0 : H0 D = none) (hS : Same H0 H1) (hD : H1 D = some (.lst acc)) (hA : Accd f R ys acc H1) (ht : Turn g tt te vs σ x (f y) (R y) H1) :
    g x (wipe σ vs) H1 fun σ2 H2 => wipe σ2 vs = wipe σ vs ∧ tt σ2 H2 fun b H3 => if b = true then te σ2 H3 fun v H4 => ∃ acc, H4 D = some (.lst acc) ∧ acc.length < sizeLine ∧
      (Same H0 (upd H4 D (.lst (acc ++ [v]))) ∧ ∃ acc', upd H4 D (.lst (acc ++ [v])) D = some (.lst acc') ∧ Accd f R (ys ++ [y]) acc' (upd H4 D (.lst (acc ++ [v])))) else
      (Same H0 H3 ∧ ∃ acc', H3 D = some (.lst acc') ∧ Accd f R (ys ++ [y]) acc' H3) := by
  refine ht _ _ (fun hf v H4 hS4 hv => ?_) fun hf H3 hS3 => ?_
  · have hD4 := hS4 _ _ hD
    refine ⟨acc, hD4, sz_smallL (by have := hA.len; omega), Same.mut (hS.trans hS4) Mu.upd h0, _, upd_same, ?_⟩
    unfold Accd
    rw [List.filter_append, List.filter_cons, if_pos hf]
    refine Paired.app (Paired.mapP hA fun y v p => (hR y).2 _ _ _ _ (mut_lst hD4) Mu.upd ((hR y).1 _ _ _ hS4 p)) (.cons ?_ .nil)
    exact (hR y).2 _ _ _ _ (mut_lst hD4) Mu.upd hv
  · refine ⟨hS.trans hS3, acc, hS3 _ _ hD, ?_⟩
    unfold Accd
    rw [List.filter_append, List.filter_cons, if_neg (by rw [hf]; decide)]
    show Paired _ (_ ++ []) _
    rw [List.append_nil]
    exact Paired.mapP hA fun y v p => (hR y).1 _ _ _ hS3 p
theorem take_snoc {α : Type} {ys : List α} {i : Nat} {y : α} (e : ys[i]? = some y) : ys.take (i + 1) = ys.take i ++ [y] := by rw [List.take_add_one, e]; rfl
theorem lcl_use {α : Type} (fv : α → V) (ys : List α) (f : α → Bool) (R : α → V → Hp → Prop) (h : SqL K H a (ys.map fv)) (hR : ∀ y, Firm (R y)) (hz : ys.length < 10000000)
    (ht : ∀ y H', y ∈ ys → Same H H' → Turn g tt te vs σ (fv y) (f y) (R y) H')
    (k : ∀ D us H2, H D = none → Same H H2 → H2 D = some (.lst us) → Paired (fun y v => R y v H2) (ys.filter f) us → Q (.ref D) H2) : LCL K g tt te vs σ Q (.ref a) H := by
  refine ⟨a, rfl, ⟨_, h⟩, fun D hD => ?_⟩
  refine lc_list (K := K) (a := a) (xs := ys.map fv) (fun i H' => Same H H' ∧ ∃ acc, H' D = some (.lst acc) ∧ Accd f R (ys.take i) acc H') ⟨Same.new hD, [], upd_same, .nil⟩ (fun i H' _ p => p.1.seq h) (fun i x H' hi p => ?_) fun H' p => ?_
  · obtain ⟨hS, acc, hA, hP⟩ := p
    rw [List.getElem?_map] at hi
    cases e : ys[i]? with
    | none => rw [e] at hi; cases hi
    | some y =>
      rw [e] at hi
      cases hi
      rw [take_snoc e]
      exact turn_go hR (by rw [List.length_take]; omega) hD hS hA hP (ht y H' (List.mem_of_getElem? e) hS)
  · obtain ⟨hS, acc, hA, hP⟩ := p
    rw [List.length_map, List.take_length] at hP
    exact k D acc H' hD hS hA hP
theorem lct_use {α : Type} (fv : α → V) (ys : List α) (f : α → Bool) (R : α → V → Hp → Prop) (h : SqT K H a (ys.map fv)) (hR : ∀ y, Firm (R y)) (hz : ys.length < 10000000)
    (ht : ∀ y H', y ∈ ys → Same H H' → Turn g tt te vs σ (fv y) (f y) (R y) H')
    (k : ∀ D us H2, H D = none → Same H H2 → H2 D = some (.lst us) → Paired (fun y v => R y v H2) (ys.filter f) us → Q (.ref D) H2) : LCT K g tt te vs σ Q (.ref a) H := by
  refine ⟨a, rfl, ⟨_, h⟩, fun D hD => ?_⟩
  refine lc_tup (K := K) (a := a) (xs := ys.map fv) (fun i H' => Same H H' ∧ ∃ acc, H' D = some (.lst acc) ∧ Accd f R (ys.take i) acc H') ⟨Same.new hD, [], upd_same, .nil⟩ (fun i H' _ p => sqt_s p.1 h) (fun i x H' hi p => ?_) fun H' p => ?_
  · obtain ⟨hS, acc, hA, hP⟩ := p
    rw [List.getElem?_map] at hi
    cases e : ys[i]? with
    | none => rw [e] at hi; cases hi
    | some y =>
      rw [e] at hi
      cases hi
      rw [take_snoc e]
      exact turn_go hR (by rw [List.length_take]; omega) hD hS hA hP (ht y H' (List.mem_of_getElem? e) hS)
  · obtain ⟨hS, acc, hA, hP⟩ := p
    rw [List.length_map, List.take_length] at hP
    exact k D acc H' hD hS hA hP
theorem lcr_use {lo : Int} {n : Nat} (f : Nat → Bool) (R : Nat → V → Hp → Prop) (hR : ∀ y, Firm (R y)) (hz : n < 10000000)
    (ht : ∀ i H', i < n → Same H H' → Turn g tt te vs σ (.int (lo + i)) (f i) (R i) H')
    (k : ∀ D us H2, H D = none → Same H H2 → H2 D = some (.lst us) → Paired (fun y v => R y v H2) ((List.range n).filter f) us → Q (.ref D) H2) : LC (Itr lo n) g tt te vs σ Q H := by
  intro D hD
  refine lc_range (lo := lo) (n := n) (fun i H' => Same H H' ∧ ∃ acc, H' D = some (.lst acc) ∧ Accd f R (List.range i) acc H') ⟨Same.new hD, [], upd_same, .nil⟩ (fun i H' hi p => ?_) fun H' p => ?_
  · obtain ⟨hS, acc, hA, hP⟩ := p
    rw [List.range_succ]
    exact turn_go hR (by rw [List.length_range]; omega) hD hS hA hP (ht i H' hi hS)
  · obtain ⟨hS, acc, hA, hP⟩ := p
    exact k D acc H' hD hS hA hP
theorem lcr0_use {n : Nat} (f : Nat → Bool) (R : Nat → V → Hp → Prop) (hR : ∀ y, Firm (R y)) (hz : n < 10000000)
    (ht : ∀ i H', i < n → Same H H' → Turn g tt te vs σ (.int (i : Int)) (f i) (R i) H')
    (k : ∀ D us H2, H D = none → Same H H2 → H2 D = some (.lst us) → Paired (fun y v => R y v H2) ((List.range n).filter f) us → Q (.ref D) H2) : LC (Itr 0 n) g tt te vs σ Q H :=
  lcr_use f R hR hz (fun i H' hi hS => by rw [Int.zero_add]; exact ht i H' hi hS) k
theorem wipe_nil (σ : L2.St) : wipe σ [] = σ := rfl
theorem wipe_cons (σ : L2.St) (v : Nat) (vs : List Nat) : wipe σ (v :: vs) = (wipe σ vs).set v none := rfl
theorem Paired.vals {α : Type} {f : α → V} : ∀ {ys : List α} {us : List V}, Paired (fun y v => v = f y) ys us → us = ys.map f
  | _, _, .nil => rfl
  | _, _, .cons r t => by rw [r, Paired.vals t]; rfl
theorem Paired.dps {α : Type} {f : α → PyData} : ∀ {ys : List α} {us : List V}, Paired (fun y v => Dp K H v (f y)) ys us → DpAll K H us (ys.map f)
  | _, _, .nil => .nil
  | _, _, .cons r t => .cons r (Paired.dps t)
theorem filter_yes {α : Type} (ys : List α) : ys.filter (fun _ => true) = ys := by simp
end
end R
namespace R
open PySem PySem.Spec PyProof.Rows L2
/-! ### the steps, as local rows -/
/-- what stands at an address -/
local macro_rules | `(tactic| k_subL) => `(tactic| first
  | assumption
  | ((with_reducible refine' SqT.of ?h1); (case h1 => k_subL))
  | ((with_reducible refine' SqL.of ?h1); (case h1 => k_subL))
  | ((with_reducible refine' lk_s ?h1 ?h2); (case h1 => assumption); (case h2 => k_subL))
  | ((with_reducible refine' lk_m ?h1 ?h2 ?h3); (case h1 => assumption); (case h3 => k_subL); (case h2 => k_clsL))
  | ((with_reducible refine' sqt_s ?h1 ?h2); (case h1 => assumption); (case h2 => k_subL))
  | ((with_reducible refine' sql_s ?h1 ?h2); (case h1 => assumption); (case h2 => k_subL))
  | ((with_reducible refine' sqt_m ?h1 ?h2 ?h3); (case h1 => assumption); (case h3 => k_subL); (case h2 => k_ownIn))
  | ((with_reducible refine' sql_m ?h1 ?h2 ?h3); (case h1 => assumption); (case h3 => k_subL); (case h2 => k_clsL))
  | ((with_reducible refine' SqF.sql ?h1); (case h1 => k_subL))
  | ((with_reducible refine' sqf_s ?h1 ?h2); (case h1 => assumption); (case h2 => k_subL))
  | ((with_reducible refine' sqf_m ?h1 ?h2 ?h3); (case h1 => assumption); (case h3 => k_subL); (case h2 => k_ownIn))
  | ((with_reducible refine' Dp.same ?h1 ?h2); (case h1 => assumption); (case h2 => k_subL))
  | ((with_reducible refine' DpAll.same ?h1 ?h2); (case h1 => assumption); (case h2 => k_subL)))
/-- it is of a kind that may change -/
local macro_rules | `(tactic| k_ownIn) => `(tactic| first | (refine' mut_l ?h1; (case h1 => k_subL)) | (refine' mut_i ?h1; (case h1 => k_subL)) | (refine' mut_d ?h1; (case h1 => k_subL)))
local macro_rules | `(tactic| k_clsL) => `(tactic| first
  | assumption
  | (refine' Ne.symm ?h1; assumption)
  | (refine' ne_of_none ?h1 ?h2; (case h2 => assumption); (case h1 => k_subL))
  | (refine' Ne.symm (ne_of_none ?h1 ?h2); (case h2 => assumption); (case h1 => k_subL))
  | (refine' ne_of ?h1 ?h2 ?h3; (case h1 => k_subL); (case h2 => k_subL); (case h3 => intro z; cases z)))
local macro_rules | `(tactic| o_reads) => `(tactic| first
  | exact Le.refl _
  | (refine' Le.trans ?h1 (le_s ?h2); (case h2 => assumption); (case h1 => o_reads))
  | (refine' Le.trans ?h1 (le_m ?h2); (case h2 => assumption); (case h1 => o_reads)))
local macro_rules | `(tactic| k_memK) => `(tactic| first
  | assumption
  | (refine' le_free ?h1 ?h2; (case h2 => assumption); (case h1 => o_reads)))
local macro_rules | `(tactic| k_offL) => `(tactic| first
  | assumption
  | exact Same.refl _
  | (refine' Same.trans ?h1 ?h2; (case h2 => assumption); (case h1 => k_offL))
  | (refine' Same.mut ?h1 ?h2 ?h3; (case h2 => assumption); (case h3 => k_memK); (case h1 => k_offL)))
local macro_rules | `(tactic| k_allIn) => `(tactic| first
  | assumption
  | (refine' Same.mu ?h1; exact Same.refl _)
  | (refine' Mu.transS ?h1 ?h2; (case h2 => assumption); (case h1 => k_allIn))
  | (refine' Mu.trans ?h1 ?h2; (case h2 => assumption); (case h1 => k_allIn))
  | (refine' Mu.mut ?h1 ?h2 ?h3; (case h2 => assumption); (case h3 => k_memK); (case h1 => k_allIn)))
/-- the steps that ask nothing, as far as they go -/
local macro_rules | `(tactic| k_caught0) => `(tactic| simp only [str_lit, ↓e_var0, ↓e_var1, ↓e_var2, ↓e_var3, ↓e_var4, ↓e_var5, ↓e_var6, ↓e_var7, ↓e_var8, ↓e_var9, ↓e_var10, ↓e_var11, ↓e_var12, ↓e_var13, ↓e_var14, ↓e_var15, ↓e_var16, ↓e_var17, ↓e_var18, ↓e_var19, ↓e_var20, ↓e_var21, ↓e_var22, ↓e_var23, ↓e_c, ↓e_op, ↓e_un, ↓e_test, ↓e_B, ↓e_tru, ↓e_notT, ↓e_andV, ↓e_orV, ↓e_notV, ↓e_if, ↓e_nil, ↓e_cons, ↓e_CB, ↓e_call, ↓e_seqAsg, ↓e_seqWhen, ↓e_seqIf, ↓e_seqDrop, ↓e_seq, ↓e_ifS, ↓e_ret, ↓e_retN, ↓e_asgN, ↓e_asg, ↓e_drop, ↓e_next, ↓e_break, ↓e_cont, ↓e_tup, ↓e_lst, ↓e_gSub, ↓e_BM, ↓e_BM0, ↓e_sl, ↓e_noPart, ↓e_part, ↓e_gName, ↓e_forL, ↓e_forT, ↓e_par, ↓e_lcL, ↓e_lcT, ↓e_lcR1, ↓e_lcR2, ↓e_yes, wipe_nil, wipe_cons, true_and, ↓e_forR1, ↓e_forR2, ↓e_ex1, ↓e_ex2, ↓e_I0, ↓e_U, ↓e_bl, ↓e_exI, ↓e_eqI, ↓e_neI, ↓e_eqS, ↓e_neS, ↓e_eqB, ↓e_neB, ↓e_eqIS, ↓e_eqSI, ↓e_isN, ↓e_notN, ↓e_int1, ↓e_int1b, ↓e_bool1, ↓e_bool1b, ↓e_min2, ↓e_max2, ↓e_abs1, ↓reduceIte, reduceCtorEq, decide_true, decide_false, ↓e_gNil, ↓e_gCons, ↓e_ipI, ↓e_pairs, List.cons_append, List.nil_append, List.append_nil, Bool.not_true, Bool.not_false, Bool.or_false, Bool.false_or, Bool.or_true, Bool.true_or, Bool.and_true, Bool.true_and, Bool.and_false, Bool.false_and, List.set_cons_zero, List.set_cons_succ])
/-- a size -/
local macro_rules | `(tactic| k_caughtNB) => `(tactic| first | exact sz_small (by decide) | (apply sz_small; simp; done) | (apply sz_small; simp; omega) | exact sz_smallL (by decide) | (apply sz_smallL; simp; done) | (apply sz_smallL; simp; omega))
/-- a step that asks the heap -/
local macro_rules | `(tactic| k_caughtB) => `(tactic| first
  | k_caught0
  | ((with_reducible refine' c_andP ?h1 ?h2 ?_); (case h1 => (intro QT hq; k_places; exact hq)); (case h2 => (intro hg; (try simp only [decide_eq_true_eq, Bool.and_eq_true, Bool.or_eq_true, Bool.not_eq_true', decide_eq_false_iff_not] at hg); intro QT hq; k_places; exact hq)))
  | ((with_reducible refine' c_orP ?h1 ?h2 ?_); (case h1 => (intro QT hq; k_places; exact hq)); (case h2 => (intro hg; (try simp only [decide_eq_true_eq, Bool.and_eq_true, Bool.or_eq_true, Bool.not_eq_true', decide_eq_false_iff_not] at hg); intro QT hq; k_places; exact hq)))
  | (with_reducible refine c_andT ?_)
  | (with_reducible refine c_orT ?_)
  | ((with_reducible refine' c_new ?h1 (fun p H1 hp hS h1 => ?_)); (case h1 => k_caughtNB))
  | (with_reducible refine c_new1 (fun p H1 hp hS h1 => ?_))
  | ((with_reducible refine' c_ixL ?h1 ?h2 ?_); (case h1 => k_subL); (case h2 => first | rfl | assumption))
  | ((with_reducible refine' c_ixT ?h1 ?h2 ?_); (case h1 => k_subL); (case h2 => first | rfl | assumption))
  | ((with_reducible refine' c_setL ?h1 ?h2 (fun H1 hM h1 => ?_)); (case h1 => k_subL); (case h2 => rfl))
  | ((with_reducible refine' c_tyL ?h1 ?_); (case h1 => k_subL))
  | ((with_reducible refine' c_append ?h1 ?h2 (fun H1 hM h1 => ?_)); (case h1 => k_subL); (case h2 => k_caughtNB))
  | ((with_reducible refine' c_cat ?h1 ?h2 ?h3 (fun p H1 hp hS h1 => ?_)); (case h1 => k_subL); (case h2 => k_subL); (case h3 => k_caughtNB))
  | ((with_reducible refine' c_lenL ?h1 ?_); (case h1 => k_subL))
  | ((with_reducible refine' c_lenT ?h1 ?_); (case h1 => k_subL))
  | ((with_reducible refine' g_tup ?h1 ?h2 ?_); (case h1 => k_subL); (case h2 => rfl))
  | (with_reducible refine isi_int_int ?_)
  | (with_reducible refine isi_int_bool ?_)
  | (with_reducible refine isi_int_tuple ?_)
  | (with_reducible refine isi_int_list ?_)
  | (with_reducible refine isi_int_str ?_)
  | (with_reducible refine isi_bl_int ?_)
  | (with_reducible refine isi_bl_bool ?_)
  | (with_reducible refine isi_bl_tuple ?_)
  | (with_reducible refine isi_bl_list ?_)
  | (with_reducible refine isi_bl_str ?_)
  | (with_reducible refine isi_str_int ?_)
  | (with_reducible refine isi_str_bool ?_)
  | (with_reducible refine isi_str_tuple ?_)
  | (with_reducible refine isi_str_list ?_)
  | (with_reducible refine isi_str_str ?_)
  | (with_reducible refine isi_non_int ?_)
  | (with_reducible refine isi_non_bool ?_)
  | (with_reducible refine isi_non_tuple ?_)
  | (with_reducible refine isi_non_list ?_)
  | (with_reducible refine isi_non_str ?_)
  | ((with_reducible refine' isi_t_int ?h1 ?_); (case h1 => k_subL))
  | ((with_reducible refine' isi_t_bool ?h1 ?_); (case h1 => k_subL))
  | ((with_reducible refine' isi_t_tuple ?h1 ?_); (case h1 => k_subL))
  | ((with_reducible refine' isi_t_list ?h1 ?_); (case h1 => k_subL))
  | ((with_reducible refine' isi_t_str ?h1 ?_); (case h1 => k_subL))
  | ((with_reducible refine' isi_l_int ?h1 ?_); (case h1 => k_subL))
  | ((with_reducible refine' isi_l_bool ?h1 ?_); (case h1 => k_subL))
  | ((with_reducible refine' isi_l_tuple ?h1 ?_); (case h1 => k_subL))
  | ((with_reducible refine' isi_l_list ?h1 ?_); (case h1 => k_subL))
  | ((with_reducible refine' isi_l_str ?h1 ?_); (case h1 => k_subL))
  | ((with_reducible refine' c_iteKF ?h1 ?_); (case h1 => o_readsAll))
  | ((with_reducible refine' c_iteKT ?h1 ?_); (case h1 => o_readsAll))
  | ((with_reducible refine' c_sum ?h1 ?h2 ?_); (case h1 => k_subL); (case h2 => rfl))
  | ((with_reducible refine' c_bnd1 ?h1 ?_); (case h1 => k_intsEnd))
  | ((with_reducible refine' c_bnd2 ?h1 ?h2 ?_); (case h1 => k_intsEnd); (case h2 => k_intsEnd))
  | ((with_reducible refine' c_I ?h1 ?_); (case h1 => k_caughtN0)))
local macro_rules | `(tactic| k_intsEnd) => `(tactic| first | (refine bnd_of ?_ ?_ <;> first | omega | (simp; omega)))
local macro_rules | `(tactic| k_caughtN0) => `(tactic| first
  | (show _ ≠ (0 : Int); omega)
  | (show CDivN _ _; exact ⟨by omega, by omega⟩)
  | exact cmul_fm (by decide) (by decide)
  | (show CMul _ _; first | exact .inl ⟨by omega, by omega⟩ | exact .inr ⟨by omega, by omega⟩)
  | (show CPow _ _; exact ⟨by decide, by decide, by decide⟩))
/-- a written truth value -/
local macro_rules | `(tactic| o_readsAll) => `(tactic| (simp only [Bool.or_false, Bool.false_or, Bool.or_true, Bool.true_or, Bool.and_true, Bool.true_and, Bool.and_false, Bool.false_and, Bool.not_true, Bool.not_false, decide_true, decide_false, Bool.or_self, Bool.and_self, reduceCtorEq]; done))
local macro_rules | `(tactic| o_readsAll) => `(tactic| decide)
local macro_rules | `(tactic| k_places) => `(tactic| repeat (first | k_caughtB | (dsimp only [List.set]; k_caughtB)))
/-- run on, both ways at every test -/
local macro_rules | `(tactic| o_fieldsN) => `(tactic| (k_places; try ((first | refine cutA ?_ | refine c_ite (fun h => ?_) (fun h => ?_) | refine c_iteN (fun h => ?_) (fun h => ?_) | refine c_iteb (fun h => ?_) (fun h => ?_)) <;> o_fieldsN)))
structure CF (K : PySem.W.Frag) : Prop where
  tt : True
/-! ### the law's draws -/
/-- the bag of draws at p -/
def BagAt (H : Hp) (p : Addr) : Prop := ∃ x y f : Int, H p = some (.lst [.int x, .int y, .int f])
section
variable {H H1 : Hp} {p l : Addr}
theorem bag_s (e : Same H H1) (h : BagAt H p) : BagAt H1 p := h.elim fun x h => h.elim fun y h => h.elim fun f h => ⟨x, y, f, e _ _ h⟩
theorem bag_m (e : Mu l H H1) (n : p ≠ l) (h : BagAt H p) : BagAt H1 p := h.elim fun x h => h.elim fun y h => h.elim fun f h => ⟨x, y, f, e.keep _ _ n h⟩
theorem bag_of {x y f : Int} (h : H p = some (.lst [.int x, .int y, .int f])) : BagAt H p := ⟨x, y, f, h⟩
theorem mut_b (h : BagAt H p) : Mut (H p) := h.elim fun x h => h.elim fun y h => h.elim fun f h => mut_l h
theorem bag_ne (h : BagAt H p) (h' : H l = none) : p ≠ l := h.elim fun x h => h.elim fun y h => h.elim fun f h => ne_of_none h h'
end
local macro_rules | `(tactic| k_subL) => `(tactic| first
  | assumption
  | ((with_reducible refine' bag_s ?h1 ?h2); (case h1 => assumption); (case h2 => k_subL))
  | ((with_reducible refine' bag_m ?h1 ?h2 ?h3); (case h1 => assumption); (case h3 => k_subL); (case h2 => k_clsL))
  | ((with_reducible refine' bag_of ?h1); (case h1 => assumption)))
local macro_rules | `(tactic| k_ownIn) => `(tactic| ((refine' mut_b ?h1); (case h1 => k_subL)))
local macro_rules | `(tactic| k_clsL) => `(tactic| first
  | assumption
  | ((refine' Ne.symm ?h1); assumption)
  | ((refine' bag_ne ?h1 ?h2); (case h2 => assumption); (case h1 => k_subL))
  | ((refine' Ne.symm (bag_ne ?h1 ?h2)); (case h2 => assumption); (case h1 => k_subL)))
def sp_lw_bag (K : PySem.W.Frag) : Sp := Sp2 fun a b H Q _ => ∃ (p : Addr) (ns : List Int) (i : Int), a = .ref p ∧ b = .int i ∧ SqL K H p (ns.map V.int) ∧ 0 ≤ i ∧
  ∀ q H', H q = none → Same H H' → BagAt H' q → Q (.ref q) H'
def sp_lw_take (_K : PySem.W.Frag) : Sp := Sp2 fun a b H Q _ => ∃ (p : Addr) (m : Int), a = .ref p ∧ b = .int m ∧ BagAt H p ∧ 0 < m ∧ m < 1073741824 ∧
  ∀ r H', 0 ≤ r → r < m → Mu p H H' → BagAt H' p → Q (.int r) H'
abbrev n_lw_bag : List Str := ["script", "at", "cell"]
abbrev t_lw_bag (K : PySem.W.Frag) : TS :=
    tSeq (tAsg (tC (.int 0)) (gName 2))
            (Evl.tCut (tIfS (tTest (tOp rLt (tVar 1) (tCB (rLen K) (tCons (tVar 0) (tNil))))) (tAsg (tOp (rIxL K) (tVar 0) (tVar 1)) (gName 2)) (tNext))
            (Evl.tCut (tIfS (tTest (tOp rLt (tVar 2) (tC (.int 0)))) (tAsg (tOp rSubI (tC (.int 1)) (tOp rMulI (tC (.int 2)) (tVar 2))) (gName 2)) (tNext))
            (tSeq (tIfS (tTest (tOp rGe (tVar 2) (tOp rPowI (tC (.int 10)) (tC (.int 18))))) (tRet (tLst (tCons (tOp rSubI (tVar 2) (tOp rPowI (tC (.int 10)) (tC (.int 18)))) (tCons (tVar 1) (tCons (tC (.int 1)) (tNil)))))) (tNext))
            (tRet (tLst (tCons (tVar 2) (tCons (tVar 1) (tCons (tC (.int 0)) (tNil)))))))))

abbrev n_lw_take : List Str := ["bag", "many", "digit", "one", "two", "three"]
abbrev t_lw_take (K : PySem.W.Frag) : TS :=
    tSeq (tIfS (tAnd (tTest (tOp rEq (tOp (rIxL K) (tVar 0) (tC (.int 2))) (tC (.int 1)))) (tTest (tOp rGt (tOp (rIxL K) (tVar 0) (tC (.int 0))) (tC (.int 1))))) (tSeq (tAsg (tOp rModN (tCB rInt1 (tCons (tOp (rIxL K) (tVar 0) (tC (.int 0))) (tNil))) (tVar 1)) (gName 2))
            (tSeq (tAsg (tOp rDivN (tOp (rIxL K) (tVar 0) (tC (.int 0))) (tVar 1)) (gSub (tVar 0) (tC (.int 0)) rSetL))
            (tRet (tVar 2)))) (tNext))
            (tSeq (tAsg (tOp rAddI (tOp (rIxL K) (tVar 0) (tC (.int 1))) (tC (.int 1))) (gSub (tVar 0) (tC (.int 1)) rSetL))
            (tSeq (tAsg (tOp rModN (tCB rInt1 (tCons (tOp rAddI (tOp rAddI (tOp rMulI (tOp (rIxL K) (tVar 0) (tC (.int 0))) (tC (.int 48271))) (tOp rMulI (tOp (rIxL K) (tVar 0) (tC (.int 1))) (tC (.int 69621)))) (tC (.int 12345))) (tNil))) (tC (.int 2147483647))) (gName 3))
            (tSeq (tAsg (tOp rModN (tCB rInt1 (tCons (tOp rAddI (tOp rMulI (tVar 3) (tVar 3)) (tOp rMulI (tOp (rIxL K) (tVar 0) (tC (.int 1))) (tC (.int 40692)))) (tNil))) (tC (.int 2147483399))) (gName 4))
            (tSeq (tAsg (tOp rModN (tCB rInt1 (tCons (tOp rAddI (tOp rMulI (tVar 4) (tVar 4)) (tVar 3)) (tNil))) (tC (.int 1000000007))) (gName 5))
            (tRet (tOp rModN (tCB rInt1 (tCons (tOp rDivN (tVar 5) (tC (.int 7))) (tNil))) (tVar 1)))))))

section
variable {K : PySem.W.Frag} {vs : List V} {H : Hp} {Q : VK} {E : XK}
theorem atI_ints {ns : List Int} {i : Int} (h0 : 0 ≤ i) (h : i < ns.length) : ∃ n, atI (ns.map V.int) i = some (.int n) := by
  obtain ⟨j, rfl⟩ := Int.eq_ofNat_of_zero_le h0
  have hj : j < ns.length := by omega
  exact ⟨ns[j], atI_nat (by rw [List.getElem?_map, List.getElem?_eq_getElem hj]; rfl)⟩
theorem rd_lw_bag {T : Prop} (C : T) (h : sp_lw_bag K vs H Q E) : t_lw_bag K { nx := fun _ H' => Q .non H', rt := Q } (start n_lw_bag vs) H := by
  obtain ⟨_, _, rfl, p, ns, i, rfl, rfl, hl, h0, k⟩ := h
  show t_lw_bag K _ [some (.ref p), some (.int i), none] H
  k_places
  refine cut (fun σ' H' => Same H H' ∧ ∃ c : Int, σ' = [some (.ref p), some (.int i), some (.int c)]) ?_ ?_
  · k_places
    refine c_ite (fun h => ?_) (fun h => ?_) <;> k_places
    · rw [List.length_map] at h
      obtain ⟨n, e⟩ := atI_ints h0 h
      refine' c_ixL ?hl e ?_
      case hl => k_subL
      exact ⟨Same.refl _, _, rfl⟩
    · exact ⟨Same.refl _, _, rfl⟩
  rintro _ H1 ⟨S1, c, rfl⟩
  refine cut (fun σ' H' => Same H H' ∧ ∃ c : Int, σ' = [some (.ref p), some (.int i), some (.int c)]) ?_ ?_
  · k_places
    refine c_ite (fun h => ?_) (fun h => ?_) <;> k_places <;> exact ⟨S1, _, rfl⟩
  rintro _ H2 ⟨S2, c, rfl⟩
  k_places
  refine c_ite (fun h => ?_) (fun h => ?_) <;> k_places
  · rename_i q H3 hq hS h3
    exact k q H3 (S2.free hq) (S2.trans hS) ⟨_, _, _, h3⟩
  · rename_i q H3 hq hS h3
    exact k q H3 (S2.free hq) (S2.trans hS) ⟨_, _, _, h3⟩
theorem rd_lw_take {T : Prop} (C : T) (h : sp_lw_take K vs H Q E) : t_lw_take K { nx := fun _ H' => Q .non H', rt := Q } (start n_lw_take vs) H := by
  obtain ⟨_, _, rfl, p, m, rfl, rfl, ⟨x, y, f, hp⟩, h0, hm, k⟩ := h
  show t_lw_take K _ [some (.ref p), some (.int m), none, none, none, none] H
  k_places
  refine c_iteb (fun h => ?_) (fun h => ?_) <;> k_places
  · simp only [Bool.and_eq_true, decide_eq_true_eq] at h
    have hn : m ≠ 0 := by omega
    k_places
    exact k _ _ (fm h0).1 (fm h0).2 (by assumption) ⟨_, _, _, by assumption⟩
  · exact k _ _ (fm h0).1 (fm h0).2 (by assumption) ⟨_, _, _, by assumption⟩
variable {p l : Addr} {m : Int}
theorem u_take (h : BagAt H p) (h0 : 0 < m) (hm : m < 1073741824) (k : ∀ r H', 0 ≤ r → r < m → Mu p H H' → BagAt H' p → Q (.int r) H') : sp_lw_take K ([.ref p, .int m]) H Q E :=
  ⟨_, _, rfl, p, m, rfl, rfl, h, h0, hm, k⟩
theorem u_bag {ns : List Int} {i : Int} (h : SqL K H p (ns.map V.int)) (h0 : 0 ≤ i) (k : ∀ q H', H q = none → Same H H' → BagAt H' q → Q (.ref q) H') : sp_lw_bag K ([.ref p, .int i]) H Q E :=
  ⟨_, _, rfl, p, ns, i, rfl, rfl, h, h0, k⟩
def sp_lw_pick (K : PySem.W.Frag) : Sp := Sp2 fun a b H Q _ => ∃ (p l : Addr) (xs : List V), a = .ref p ∧ b = .ref l ∧ BagAt H p ∧ SqL K H l xs ∧ l ≠ p ∧ xs ≠ [] ∧ xs.length < 1073741824 ∧
  ∀ v H', v ∈ xs → Mu p H H' → BagAt H' p → Q v H'
theorem u_pick {xs : List V} (h : BagAt H p) (hl : SqL K H l xs) (hn : l ≠ p) (h0 : xs ≠ []) (hm : xs.length < 1073741824) (k : ∀ v H', v ∈ xs → Mu p H H' → BagAt H' p → Q v H') : sp_lw_pick K ([.ref p, .ref l]) H Q E :=
  ⟨_, _, rfl, p, l, xs, rfl, rfl, h, hl, hn, h0, hm, k⟩
/-- the ints of a list of ints -/
def intsOf : List V → Option (List Int)
  | [] => some []
  | .int i :: r => match intsOf r with
    | some ms => some (i :: ms)
    | none => none
  | _ => none
def strsOf : List V → Option (List Str)
  | [] => some []
  | .str i :: r => match strsOf r with
    | some ms => some (i :: ms)
    | none => none
  | _ => none
theorem intsOf_eq : ∀ {xs : List V} {ns : List Int}, intsOf xs = some ns → xs = ns.map V.int
  | [], _, h => by cases h; rfl
  | .int i :: r, ns, h => by
    unfold intsOf at h
    cases e : intsOf r with
    | none => rw [e] at h; cases h
    | some ms => rw [e] at h; cases h; rw [intsOf_eq e]; rfl
theorem strsOf_eq : ∀ {xs : List V} {ns : List Str}, strsOf xs = some ns → xs = ns.map V.str
  | [], _, h => by cases h; rfl
  | .str i :: r, ns, h => by
    unfold strsOf at h
    cases e : strsOf r with
    | none => rw [e] at h; cases h
    | some ms => rw [e] at h; cases h; rw [strsOf_eq e]; rfl
theorem u_pickI {xs : List V} {ns : List Int} (h : BagAt H p) (hl : SqL K H l xs) (hi : intsOf xs = some ns) (hn : l ≠ p) (h0 : ns ≠ []) (hm : ns.length < 1073741824) (k : ∀ n H', n ∈ ns → Mu p H H' → BagAt H' p → Q (.int n) H') : sp_lw_pick K ([.ref p, .ref l]) H Q E := by
  have e := intsOf_eq hi
  subst e
  refine u_pick h hl hn (by simpa using h0) (by simpa using hm) fun v H' hv hM hB => ?_
  obtain ⟨n, hn, rfl⟩ := List.mem_map.mp hv
  exact k n H' hn hM hB
theorem u_pickS {xs : List V} {ns : List Str} (h : BagAt H p) (hl : SqL K H l xs) (hi : strsOf xs = some ns) (hn : l ≠ p) (h0 : ns ≠ []) (hm : ns.length < 1073741824) (k : ∀ n H', n ∈ ns → Mu p H H' → BagAt H' p → Q (.str n) H') : sp_lw_pick K ([.ref p, .ref l]) H Q E := by
  have e := strsOf_eq hi
  subst e
  refine u_pick h hl hn (by simpa using h0) (by simpa using hm) fun v H' hv hM hB => ?_
  obtain ⟨n, hn, rfl⟩ := List.mem_map.mp hv
  exact k n H' hn hM hB
end
local macro_rules | `(tactic| k_caughtB) => `(tactic| ((with_reducible refine' u_take ?h1 ?h2 ?h3 (fun r H' r0 rm hM hB => ?_)); (case h1 => k_subL); (case h2 => omega); (case h3 => omega)))
local macro_rules | `(tactic| k_caughtB) => `(tactic| ((with_reducible refine' u_bag ?h1 ?h2 (fun q H' hq hS hB => ?_)); (case h1 => k_subL); (case h2 => omega)))
local macro_rules | `(tactic| k_caughtB) => `(tactic| ((with_reducible refine' u_pick ?h1 ?h2 ?h3 ?h4 ?h5 (fun v H' hv hM hB => ?_)); (case h1 => k_subL); (case h2 => k_subL); (case h3 => k_clsL); (case h4 => exact List.cons_ne_nil _ _); (case h5 => first | decide | (simp; done) | (simp; omega))))
local macro_rules | `(tactic| k_caughtB) => `(tactic| ((with_reducible refine' u_pickS ?h1 ?h2 ?h6 ?h3 ?h4 ?h5 (fun v H' hv hM hB => ?_)); (case h1 => k_subL); (case h2 => k_subL); (case h6 => rfl); (case h3 => k_clsL); (case h4 => exact List.cons_ne_nil _ _); (case h5 => first | decide | (simp; done) | (simp; omega))))
local macro_rules | `(tactic| k_caughtB) => `(tactic| ((with_reducible refine' u_pickI ?h1 ?h2 ?h6 ?h3 ?h4 ?h5 (fun v H' hv hM hB => ?_)); (case h1 => k_subL); (case h2 => k_subL); (case h6 => rfl); (case h3 => k_clsL); (case h4 => exact List.cons_ne_nil _ _); (case h5 => first | decide | (simp; done) | (simp; omega))))
abbrev n_lw_pick : List Str := ["bag", "menu"]
abbrev t_lw_pick (K : PySem.W.Frag) : TS :=
    tRet (tOp (rIxL K) (tVar 1) (tCall (sp_lw_take K) [] E0 (tCons (tVar 0) (tCons (tCB (rLen K) (tCons (tVar 1) (tNil))) (tNil)))))

theorem rd_lw_pick {K : PySem.W.Frag} {vs : List V} {H : Hp} {Q : VK} {E : XK} {T : Prop} (C : T) (h : sp_lw_pick K vs H Q E) : t_lw_pick K { nx := fun _ H' => Q .non H', rt := Q } (start n_lw_pick vs) H := by
  obtain ⟨_, _, rfl, p, l, xs, rfl, rfl, hb, hl, hn, h0, hm, k⟩ := h
  show t_lw_pick K _ [some (.ref p), some (.ref l)] H
  have hp : 0 < xs.length := List.length_pos_iff.mpr h0
  k_places
  rename_i r H' r0 rm hM hB
  obtain ⟨j, rfl⟩ := Int.eq_ofNat_of_zero_le r0
  have hj : j < xs.length := by omega
  refine' c_ixL ?hl (atI_nat (List.getElem?_eq_getElem hj)) (k _ _ (List.getElem_mem hj) hM hB)
  case hl => k_subL
/-! ### the law's comparison: it says True of two that are the same data -/
mutual
def dep : PyData → Nat
  | .tuple ds => depAll ds + 1
  | .list ds => depAll ds + 1
  | _ => 1
def depAll : List PyData → Nat
  | [] => 0
  | d :: ds => max (dep d) (depAll ds)
end
mutual
def wid : PyData → Nat
  | .tuple ds => max ds.length (widAll ds)
  | .list ds => max ds.length (widAll ds)
  | _ => 0
def widAll : List PyData → Nat
  | [] => 0
  | d :: ds => max (wid d) (widAll ds)
end
theorem dep_mem {d : PyData} : ∀ {ds : List PyData}, d ∈ ds → dep d ≤ depAll ds ∧ wid d ≤ widAll ds
  | e :: ds, h => by
    unfold depAll widAll
    rcases List.mem_cons.mp h with rfl | h
    · omega
    · have := dep_mem h
      omega
def sp_lw_same (K : PySem.W.Frag) : Nat → Sp
  | 0 => fun _ _ _ _ => False
  | n + 1 => Sp2 fun a b H Q _ => ∃ d, Dp K H a d ∧ Dp K H b d ∧ dep d ≤ n + 1 ∧ wid d ≤ 100000000 ∧ Q (.bl true) H
abbrev n_lw_same : List Str := ["got", "due", "k"]
abbrev t_lw_same (K : PySem.W.Frag) (n : Nat) : TS :=
    tSeq (tIfS (tOr (tB (tCB (rIsi K) (tCons (tVar 1) (tCons (tC (.ty "tuple")) (tNil))))) (tB (tCB (rIsi K) (tCons (tVar 1) (tCons (tC (.ty "list")) (tNil)))))) (tSeq (tIfS (tOr (tTest (tOp rNe (tCB (rIsi K) (tCons (tVar 1) (tCons (tC (.ty "tuple")) (tNil)))) (tCB (rIsi K) (tCons (tVar 0) (tCons (tC (.ty "tuple")) (tNil)))))) (tTest (tOp rNe (tCB (rIsi K) (tCons (tVar 1) (tCons (tC (.ty "list")) (tNil)))) (tCB (rIsi K) (tCons (tVar 0) (tCons (tC (.ty "list")) (tNil))))))) (tRet (tC (.bl false))) (tNext))
            (tSeq (tIfS (tTest (tOp rNe (tCB (rLen K) (tCons (tVar 0) (tNil))) (tCB (rLen K) (tCons (tVar 1) (tNil))))) (tRet (tC (.bl false))) (tNext))
            (tSeq (tFor (iRng1 (tCons (tCB (rLen K) (tCons (tVar 1) (tNil))) (tNil))) (gName 2) (tIfS (tNot (tB (tCall (sp_lw_same K n) [] E0 (tCons (tOp (rIx K) (tVar 0) (tVar 2)) (tCons (tOp (rIx K) (tVar 1) (tVar 2)) (tNil)))))) (tRet (tC (.bl false))) (tNext)))
            (tRet (tC (.bl true)))))) (tNext))
            (tSeq (tIfS (tOr (tB (tCB (rIsi K) (tCons (tVar 1) (tCons (tC (.ty "bool")) (tNil))))) (tB (tCB (rIsi K) (tCons (tVar 0) (tCons (tC (.ty "bool")) (tNil)))))) (tRet (tAndV (tCB (rIsi K) (tCons (tVar 1) (tCons (tC (.ty "bool")) (tNil)))) (tAndV (tCB (rIsi K) (tCons (tVar 0) (tCons (tC (.ty "bool")) (tNil)))) (tOp rEq (tVar 0) (tVar 1))))) (tNext))
            (tSeq (tIfS (tB (tCB (rIsi K) (tCons (tVar 1) (tCons (tC (.ty "int")) (tNil))))) (tRet (tAndV (tCB (rIsi K) (tCons (tVar 0) (tCons (tC (.ty "int")) (tNil)))) (tOp rEq (tVar 0) (tVar 1)))) (tNext))
            (tSeq (tIfS (tB (tCB (rIsi K) (tCons (tVar 1) (tCons (tC (.ty "str")) (tNil))))) (tRet (tAndV (tCB (rIsi K) (tCons (tVar 0) (tCons (tC (.ty "str")) (tNil)))) (tOp rEq (tVar 0) (tVar 1)))) (tNext))
            (tRet (tAndV (tOp rIsN (tVar 0) (tC .non)) (tOp rIsN (tVar 1) (tC .non)))))))

section
variable {K : PySem.W.Frag} {vs : List V} {H : Hp} {Q : VK} {E : XK}
theorem u_same {n : Nat} {a b : V} {d : PyData} (ha : Dp K H a d) (hb : Dp K H b d) (hd : dep d ≤ n + 1) (hw : wid d ≤ 100000000) (k : Q (.bl true) H) : sp_lw_same K (n + 1) ([a, b]) H Q E := ⟨a, b, rfl, d, ha, hb, hd, hw, k⟩
theorem ix_any {a : Addr} {xs : List V} {j : Nat} {v : V} (h : SqT K H a xs ∨ SqL K H a xs) (e : xs[j]? = some v) (k : Q v H) : rIx K (.ref a) (.int (j : Int)) H Q := by
  rcases h with h | h
  · exact .inr (.inl ⟨a, xs, _, v, rfl, rfl, h, atI_nat e, k⟩)
  · exact .inl ⟨a, xs, _, v, rfl, rfl, h, atI_nat e, k⟩
theorem rd_lw_same {T : Prop} (C : T) (n : Nat) (h : sp_lw_same K (n + 1) vs H Q E) : t_lw_same K n { nx := fun _ H' => Q .non H', rt := Q } (start n_lw_same vs) H := by
  obtain ⟨a, b, rfl, d, ha, hb, hd, hw, k⟩ := h
  show t_lw_same K n _ [some a, some b, none] H
  cases ha with
  | non => cases hb; k_places; exact k
  | bl x => cases hb; k_places; exact k
  | int x => cases hb; k_places; exact k
  | str x => cases hb; k_places; exact k
  | @tup a1 xs1 ds h1 r1 =>
    cases hb with
    | @tup a2 xs2 _ h2 r2 =>
    k_places
    have l1 := DpAll.len r1
    have l2 := DpAll.len r2
    simp only [dep] at hd
    simp only [wid] at hw
    refine c_iteKF (by rw [l1, l2]; simp) ?_
    k_places
    refine fr_use (fun i σ' H' => IsH H H' ∧ ∃ v, σ' = [some (.ref a1), some (.ref a2), v]) ⟨rfl, _, rfl⟩ ?_ ?_
    · rintro i _ _ hi ⟨rfl, v, rfl⟩
      have hi1 : i < xs1.length := by omega
      have hi2 : i < xs2.length := by omega
      have hi3 : i < ds.length := by omega
      obtain ⟨d1, e1, p1⟩ := DpAll.get r1 (List.getElem?_eq_getElem hi1)
      obtain ⟨d2, e2, p2⟩ := DpAll.get r2 (List.getElem?_eq_getElem hi2)
      rw [e1] at e2
      cases e2
      have hm := dep_mem (List.mem_of_getElem? e1)
      have hn : ∃ m, n = m + 1 := ⟨n - 1, by have : 0 < dep d1 := by { cases d1 <;> simp [dep] }; omega⟩
      obtain ⟨m, rfl⟩ := hn
      rw [Int.zero_add]
      k_places
      refine ix_any (.inl h1) (List.getElem?_eq_getElem hi1) ?_
      k_places
      refine ix_any (.inl h2) (List.getElem?_eq_getElem hi2) ?_
      k_places
      refine u_same (n := m) p1 p2 (by omega) (by omega) ?_
      k_places
      exact ⟨rfl, _, rfl⟩
    · rintro _ _ ⟨rfl, v, rfl⟩
      k_places
      exact k
  | @lst a1 xs1 ds h1 r1 =>
    cases hb with
    | @lst a2 xs2 _ h2 r2 =>
    k_places
    have l1 := DpAll.len r1
    have l2 := DpAll.len r2
    simp only [dep] at hd
    simp only [wid] at hw
    refine c_iteKF (by rw [l1, l2]; simp) ?_
    k_places
    refine fr_use (fun i σ' H' => IsH H H' ∧ ∃ v, σ' = [some (.ref a1), some (.ref a2), v]) ⟨rfl, _, rfl⟩ ?_ ?_
    · rintro i _ _ hi ⟨rfl, v, rfl⟩
      have hi1 : i < xs1.length := by omega
      have hi2 : i < xs2.length := by omega
      have hi3 : i < ds.length := by omega
      obtain ⟨d1, e1, p1⟩ := DpAll.get r1 (List.getElem?_eq_getElem hi1)
      obtain ⟨d2, e2, p2⟩ := DpAll.get r2 (List.getElem?_eq_getElem hi2)
      rw [e1] at e2
      cases e2
      have hm := dep_mem (List.mem_of_getElem? e1)
      have hn : ∃ m, n = m + 1 := ⟨n - 1, by have : 0 < dep d1 := by { cases d1 <;> simp [dep] }; omega⟩
      obtain ⟨m, rfl⟩ := hn
      rw [Int.zero_add]
      k_places
      refine ix_any (.inr h1) (List.getElem?_eq_getElem hi1) ?_
      k_places
      refine ix_any (.inr h2) (List.getElem?_eq_getElem hi2) ?_
      k_places
      refine u_same (n := m) p1 p2 (by omega) (by omega) ?_
      k_places
      exact ⟨rfl, _, rfl⟩
    · rintro _ _ ⟨rfl, v, rfl⟩
      k_places
      exact k
end
inductive Mode where
  | on | off | pulse | sum
def Mode.str : Mode → Str
  | .on => "on"
  | .off => "off"
  | .pulse => "pulse"
  | .sum => "sum"
def b2z (b : Bool) : Int := if b then 1 else 0
def timerZ (m : Mode) (a e q l p w : Int) : Int × Int × Int :=
  let later := min a (e + w)
  match m with
  | .on => if p = 0 then (0, 0, l) else (later, b2z (decide (later = a)), l)
  | .sum => let e' := if p = 1 then later else e
    (e', b2z (decide (e' = a)), l)
  | .off => if p = 1 then (0, 1, l) else if q = 1 then (later, b2z (decide (later < a)), l) else (e, q, l)
  | .pulse => if q = 1 then (later, b2z (decide (later < a)), p) else if p = 1 ∧ l = 0 then (0, 1, p) else (e, q, p)
def Tup3 (K : PySem.W.Frag) (H : Hp) (t : Addr) (x : Int × Int × Int) : Prop := SqT K H t [.int x.1, .int x.2.1, .int x.2.2]
theorem Tup3.dp {K : PySem.W.Frag} {H : Hp} {t : Addr} {x : Int × Int × Int} (h : Tup3 K H t x) : Dp K H (.ref t) (.tuple [.int x.1, .int x.2.1, .int x.2.2]) := .tup h (.cons (.int _) (.cons (.int _) (.cons (.int _) .nil)))
def Bit (p : Int) : Prop := p = 0 ∨ p = 1
/-! ### the plain law -/
/-- the last place at which the row has p, or -1 -/
def lastP (p : Int) (row : List Int) : Int := (((List.range row.length).filter fun i => decide (row.getD i 0 = p)).map fun i : Nat => (i : Int)).getLastD (-1)
def takenStep (a w : Int) (x : Int × Int × Int) (row : List Int) (s : Int × Int) (k : Nat) : Int × Int :=
  let busy : Bool := if 0 ≤ s.1 then decide (w * ((k : Int) - 1 - s.1) < a) else decide (x.2.1 = 1) && (decide ((k : Int) = 0) || decide (x.1 + w * (k : Int) < a))
  (if (decide (row.getD k 0 = 1) && decide (s.2 = 0) && !busy) = true then (k : Int) else s.1, row.getD k 0)
def taken (a w : Int) (x : Int × Int × Int) (row : List Int) : Int := ((List.range row.length).foldl (takenStep a w x row) (-1, x.2.2)).1
def standZ (m : Mode) (a w : Int) (x : Int × Int × Int) (row : List Int) : Int × Int × Int :=
  let n : Int := row.length
  match m with
  | .sum => let s := x.1 + w * row.sum
    (min a s, b2z (decide (a ≤ s)), x.2.2)
  | .on => let c := lastP 0 row
    let s := if 0 ≤ c then w * (n - 1 - c) else x.1 + w * n
    (min a s, b2z (decide (a ≤ s)), x.2.2)
  | .off => let c := lastP 1 row
    if c < 0 ∧ x.2.1 = 0 then (x.1, 0, x.2.2) else
    let s := if 0 ≤ c then w * (n - 1 - c) else x.1 + w * n
    (min a s, b2z (decide (s < a)), x.2.2)
  | .pulse => let c := taken a w x row
    let h := row.getLastD x.2.2
    if c < 0 ∧ x.2.1 = 0 then (x.1, 0, h) else
    let s := if 0 ≤ c then w * (n - 1 - c) else x.1 + w * n
    (min a s, b2z (decide (s < a)), h)
theorem snoc_or {α : Type} : ∀ l : List α, l = [] ∨ ∃ r y, l = r ++ [y]
  | [] => .inl rfl
  | a :: l => by
    rcases snoc_or l with rfl | ⟨r, y, rfl⟩
    · exact .inr ⟨[], a, rfl⟩
    · exact .inr ⟨a :: r, y, rfl⟩
theorem getD_snoc {row : List Int} {y : Int} {i : Nat} (h : i < row.length) : (row ++ [y]).getD i 0 = row.getD i 0 := by
  rw [List.getD_eq_getElem?_getD, List.getD_eq_getElem?_getD, List.getElem?_append_left h]
theorem getD_last {row : List Int} {y : Int} : (row ++ [y]).getD row.length 0 = y := by
  rw [List.getD_eq_getElem?_getD, List.getElem?_append_right (Nat.le_refl _)]
  simp
theorem lastP_snoc (p y : Int) (row : List Int) : lastP p (row ++ [y]) = if y = p then (row.length : Int) else lastP p row := by
  unfold lastP
  rw [List.length_append, List.length_singleton, List.range_succ, List.filter_append, List.filter_cons, getD_last]
  have e : (List.range row.length).filter (fun i => decide ((row ++ [y]).getD i 0 = p)) = (List.range row.length).filter fun i => decide (row.getD i 0 = p) :=
    List.filter_congr fun i hi => by rw [getD_snoc (List.mem_range.mp hi)]
  rw [e]
  by_cases h : y = p
  · rw [if_pos h, if_pos (by simpa using h)]
    simp
  · rw [if_neg h, if_neg (by simpa using h)]
    simp
theorem foldl_congr2 {α β : Type} {f g : β → α → β} : ∀ (l : List α) (b : β), (∀ b, ∀ a ∈ l, f b a = g b a) → l.foldl f b = l.foldl g b
  | [], _, _ => rfl
  | a :: l, b, h => by
    rw [List.foldl_cons, List.foldl_cons, h b a (List.mem_cons_self ..)]
    exact foldl_congr2 l _ fun b' a' ha => h b' a' (List.mem_cons_of_mem _ ha)
def takenF (a w : Int) (x : Int × Int × Int) (row : List Int) : Int × Int := (List.range row.length).foldl (takenStep a w x row) (-1, x.2.2)
theorem takenF_snoc (a w : Int) (x : Int × Int × Int) (row : List Int) (y : Int) : takenF a w x (row ++ [y]) = takenStep a w x (row ++ [y]) (takenF a w x row) row.length := by
  unfold takenF
  rw [List.length_append, List.length_singleton, List.range_succ, List.foldl_append, List.foldl_cons, List.foldl_nil]
  congr 1
  exact foldl_congr2 _ _ fun b i hi => by unfold takenStep; rw [getD_snoc (List.mem_range.mp hi)]
theorem takenF_last (a w : Int) (x : Int × Int × Int) (row : List Int) : (takenF a w x row).2 = row.getLastD x.2.2 := by
  rcases snoc_or row with rfl | ⟨r, y, rfl⟩
  · rfl
  · rw [takenF_snoc]
    simp [takenStep]
theorem takenF_lt (a w : Int) (x : Int × Int × Int) : ∀ (n : Nat) (row : List Int), row.length = n → (takenF a w x row).1 < n ∧ -1 ≤ (takenF a w x row).1 := by
  intro n
  induction n with
  | zero =>
    intro row h
    obtain rfl := List.length_eq_zero_iff.mp h
    simp [takenF]
  | succ n ih =>
    intro row h
    rcases snoc_or row with rfl | ⟨r, y, rfl⟩
    · simp at h
    · have hr : r.length = n := by simpa using h
      have := ih r hr
      rw [takenF_snoc]
      unfold takenStep
      dsimp only
      split <;> omega
theorem lastP_lt (p : Int) (row : List Int) : lastP p row < row.length ∧ -1 ≤ lastP p row := by
  rcases snoc_or row with rfl | ⟨r, y, rfl⟩
  · simp [lastP]
  · have : ∀ (n : Nat) (row : List Int), row.length = n → lastP p row < n ∧ -1 ≤ lastP p row := by
      intro n
      induction n with
      | zero => intro row h; obtain rfl := List.length_eq_zero_iff.mp h; simp [lastP]
      | succ n ih =>
        intro row h
        rcases snoc_or row with rfl | ⟨r, y, rfl⟩
        · simp at h
        · have hr : r.length = n := by simpa using h
          have := ih r hr
          rw [lastP_snoc]
          split <;> omega
    exact this _ _ rfl
theorem mul_step (w n c : Int) : w * (n + 1 - 1 - c) = w * (n - 1 - c) + w := by
  have e : n + 1 - 1 - c = (n - 1 - c) + 1 := by omega
  rw [e, Int.mul_add, Int.mul_one]
theorem mul_step0 (w n : Int) : w * (n + 1) = w * n + w := by rw [Int.mul_add, Int.mul_one]
/-- the first run -/
theorem stand_one {m : Mode} {a w p : Int} {x : Int × Int × Int} (ha : 1 ≤ a) (hw : 1 ≤ w) (h0 : 0 ≤ x.1) (h1 : x.1 ≤ a) (hq : Bit x.2.1) (hl : Bit x.2.2) (hp : Bit p) : timerZ m a x.1 x.2.1 x.2.2 p w = standZ m a w x [p] := by
  have e1 : ∀ c : Int, lastP c [p] = if p = c then 0 else -1 := fun c => lastP_snoc c p []
  have e2 : taken a w x [p] = (takenStep a w x [p] (-1, x.2.2) 0).1 := rfl
  obtain ⟨e, q, l⟩ := x
  dsimp only at *
  rcases hq with rfl | rfl <;> rcases hl with rfl | rfl <;> rcases hp with rfl | rfl <;> cases m <;> simp [timerZ, standZ, e1, e2, takenStep, b2z] <;> grind
/-- one run more -/
theorem stand_more {m : Mode} {a w p : Int} {x : Int × Int × Int} {row : List Int} (ha : 1 ≤ a) (hw : 1 ≤ w) (h0 : 0 ≤ x.1) (h1 : x.1 ≤ a) (hq : Bit x.2.1) (hl : Bit x.2.2) (hp : Bit p) (hr : row ≠ []) (hbit : ∀ n ∈ row, Bit n) :
    timerZ m a (standZ m a w x row).1 (standZ m a w x row).2.1 (standZ m a w x row).2.2 p w = standZ m a w x (row ++ [p]) := by
  have hn : 1 ≤ (row.length : Int) := by have := List.length_pos_iff.mpr hr; omega
  have c0 := lastP_lt 0 row
  have c1 := lastP_lt 1 row
  have c2 := takenF_lt a w x _ row rfl
  cases m with
  | on =>
    simp only [timerZ, standZ, lastP_snoc, List.length_append, List.length_singleton, Int.natCast_add, Int.natCast_one, mul_step, mul_step0, b2z]
    rcases hp with rfl | rfl <;> grind
  | sum =>
    simp only [timerZ, standZ, List.sum_append, List.sum_singleton, b2z]
    rcases hp with rfl | rfl <;> grind
  | off =>
    simp only [timerZ, standZ, lastP_snoc, List.length_append, List.length_singleton, Int.natCast_add, Int.natCast_one, mul_step, mul_step0, b2z]
    rcases hp with rfl | rfl <;> rcases hq with h | h <;> grind
  | pulse =>
    have e : taken a w x (row ++ [p]) = (takenStep a w x (row ++ [p]) (takenF a w x row) row.length).1 := congrArg Prod.fst (takenF_snoc a w x row p)
    have e2 := takenF_last a w x row
    have e3 : taken a w x row = (takenF a w x row).1 := rfl
    have hlb : Bit (row.getLastD x.2.2) := by
      rcases snoc_or row with h | ⟨r, y, rfl⟩
      · exact absurd h hr
      · simp; exact hbit y (by simp)
    simp only [timerZ, standZ, e, e3, List.length_append, List.length_singleton, Int.natCast_add, Int.natCast_one, mul_step, mul_step0, b2z, takenStep, getD_last, e2]
    generalize row.getLastD x.2.2 = lb at *
    generalize (takenF a w x row).1 = c at *
    generalize (row.length : Int) = n at *
    rcases hp with rfl | rfl <;> rcases hq with h | h <;> rcases hlb with rfl | rfl <;> simp [h] <;> grind
def sp_timer_step (K : PySem.W.Frag) : Sp := Sp5 fun a b c d e H Q _ => ∃ (m : Mode) (pr : Int) (t : Addr) (x : Int × Int × Int) (p w : Int), a = .str m.str ∧ b = .int pr ∧ c = .ref t ∧ d = .int p ∧ e = .int w ∧ Tup3 K H t x ∧
  ∀ u H', Same H H' → Tup3 K H' u (timerZ m pr x.1 x.2.1 x.2.2 p w) → Q (.ref u) H'
def sp_lw_size (_K : PySem.W.Frag) : Sp := Sp1 fun a H Q _ => ∃ p, a = .ref p ∧ BagAt H p ∧ ∀ n H', 1 ≤ n → n ≤ 999 → Mu p H H' → BagAt H' p → Q (.int n) H'
def sp_lw_preset (_K : PySem.W.Frag) : Sp := Sp2 fun a b H Q _ => ∃ p w, a = .ref p ∧ b = .int w ∧ BagAt H p ∧ 1 ≤ w ∧ w ≤ 999 ∧ ∀ n H', 1 ≤ n → n ≤ 999 → Mu p H H' → BagAt H' p → Q (.int n) H'
def sp_lw_start (K : PySem.W.Frag) : Sp := Sp3 fun a b c H Q _ => ∃ (p : Addr) (pr w : Int), a = .ref p ∧ b = .int pr ∧ c = .int w ∧ BagAt H p ∧ 1 ≤ pr ∧ pr ≤ 999 ∧
  ∀ t v q l H', Tup3 K H' t (v, q, l) → 0 ≤ v → v ≤ pr → Bit q → Bit l → Mu p H H' → BagAt H' p → Q (.ref t) H'
def sp_lw_row (_K : PySem.W.Frag) : Sp := Sp1 fun a H Q _ => ∃ p, a = .ref p ∧ BagAt H p ∧ ∀ r (ns : List Int) H', H r = none → Mu p H H' → BagAt H' p → H' r = some (.lst (ns.map V.int)) → ns.length ≤ 60 → (∀ n ∈ ns, Bit n) → Q (.ref r) H'
def sp_lw_last (K : PySem.W.Frag) : Sp := Sp2 fun a b H Q _ => ∃ (r : Addr) (ns : List Int) (p : Int), a = .ref r ∧ b = .int p ∧ H r = some (.lst (ns.map V.int)) ∧ ns.length ≤ 60 ∧ ∀ H', Same H H' → Q (.int (lastP p ns)) H'
def sp_lw_taken (K : PySem.W.Frag) : Sp := Sp4 fun a b c d H Q _ => ∃ (pr w : Int) (t r : Addr) (x : Int × Int × Int) (ns : List Int), a = .int pr ∧ b = .int w ∧ c = .ref t ∧ d = .ref r ∧ 1 ≤ w ∧ w ≤ 999 ∧ Tup3 K H t x ∧ H r = some (.lst (ns.map V.int)) ∧ ns.length ≤ 60 ∧
  ∀ H', Same H H' → Q (.int (taken pr w x ns)) H'
def sp_lw_stand (K : PySem.W.Frag) : Sp := Sp5 fun a b c d e H Q _ => ∃ (m : Mode) (pr w : Int) (t r : Addr) (x : Int × Int × Int) (ns : List Int), a = .str m.str ∧ b = .int pr ∧ c = .int w ∧ d = .ref t ∧ e = .ref r ∧ 1 ≤ w ∧ w ≤ 999 ∧ Tup3 K H t x ∧ H r = some (.lst (ns.map V.int)) ∧ ns.length ≤ 60 ∧ ns ≠ [] ∧
  ∀ u H', Same H H' → Tup3 K H' u (standZ m pr w x ns) → Q (.ref u) H'
def sp_law (K : PySem.W.Frag) : Sp := Sp1 fun a H Q _ => ∃ (p : Addr) (ns : List Int), a = .ref p ∧ SqF K H p (ns.map V.int) ∧ ns.length ≤ 63 ∧ ∀ H', Q (.bl true) H'
abbrev n_timer_step : List Str := ["mode", "preset", "cells", "p", "pace", "elapsed", "output", "last", "later"]
abbrev t_timer_step (K : PySem.W.Frag) : TS :=
    tSeq (tAsg (tVar 2) (gTup K 3 (gCons (gName 5) (gCons (gName 6) (gCons (gName 7) (gNil))))))
            (tSeq (tAsg (tCB rMin2 (tCons (tVar 1) (tCons (tOp rAddI (tVar 5) (tVar 4)) (tNil)))) (gName 8))
            (tSeq (tIfS (tTest (tOp rEq (tVar 0) (tC (.str "on")))) (tSeq (tIfS (tTest (tOp rEq (tVar 3) (tC (.int 0)))) (tRet (tTup (tCons (tC (.int 0)) (tCons (tC (.int 0)) (tCons (tVar 7) (tNil)))))) (tNext))
            (tRet (tTup (tCons (tVar 8) (tCons (tCB rInt1 (tCons (tOp rEq (tVar 8) (tVar 1)) (tNil))) (tCons (tVar 7) (tNil))))))) (tNext))
            (tSeq (tIfS (tTest (tOp rEq (tVar 0) (tC (.str "sum")))) (Evl.tCut (tIfS (tTest (tOp rEq (tVar 3) (tC (.int 1)))) (tAsg (tVar 8) (gName 5)) (tNext))
            (tRet (tTup (tCons (tVar 5) (tCons (tCB rInt1 (tCons (tOp rEq (tVar 5) (tVar 1)) (tNil))) (tCons (tVar 7) (tNil))))))) (tNext))
            (tSeq (tIfS (tTest (tOp rEq (tVar 0) (tC (.str "off")))) (tSeq (tIfS (tTest (tOp rEq (tVar 3) (tC (.int 1)))) (tRet (tTup (tCons (tC (.int 0)) (tCons (tC (.int 1)) (tCons (tVar 7) (tNil)))))) (tNext))
            (tSeq (tIfS (tTest (tOp rEq (tVar 6) (tC (.int 1)))) (tRet (tTup (tCons (tVar 8) (tCons (tCB rInt1 (tCons (tOp rLt (tVar 8) (tVar 1)) (tNil))) (tCons (tVar 7) (tNil)))))) (tNext))
            (tRet (tTup (tCons (tVar 5) (tCons (tVar 6) (tCons (tVar 7) (tNil)))))))) (tNext))
            (tSeq (tIfS (tTest (tOp rEq (tVar 6) (tC (.int 1)))) (tRet (tTup (tCons (tVar 8) (tCons (tCB rInt1 (tCons (tOp rLt (tVar 8) (tVar 1)) (tNil))) (tCons (tVar 3) (tNil)))))) (tNext))
            (tSeq (tIfS (tAnd (tTest (tOp rEq (tVar 3) (tC (.int 1)))) (tTest (tOp rEq (tVar 7) (tC (.int 0))))) (tRet (tTup (tCons (tC (.int 0)) (tCons (tC (.int 1)) (tCons (tVar 3) (tNil)))))) (tNext))
            (tRet (tTup (tCons (tVar 5) (tCons (tVar 6) (tCons (tVar 3) (tNil))))))))))))

abbrev n_lw_size : List Str := ["bag"]
abbrev t_lw_size (K : PySem.W.Frag) : TS :=
    tRet (tCall (sp_lw_pick K) [] E0 (tCons (tVar 0) (tCons (tLst (tCons (tC (.int 1)) (tCons (tC (.int 2)) (tCons (tC (.int 3)) (tCons (tC (.int 12)) (tCons (tC (.int 999)) (tCons (tOp rAddI (tC (.int 1)) (tCall (sp_lw_take K) [] E0 (tCons (tVar 0) (tCons (tC (.int 999)) (tNil))))) (tNil)))))))) (tNil))))

abbrev n_lw_preset : List Str := ["bag", "pace_n", "preset"]
abbrev t_lw_preset (K : PySem.W.Frag) : TS :=
    tSeq (tAsg (tCall (sp_lw_size K) [] E0 (tCons (tVar 0) (tNil))) (gName 2))
            (Evl.tCut (tIfS (tTest (tOp rEq (tCall (sp_lw_take K) [] E0 (tCons (tVar 0) (tCons (tC (.int 2)) (tNil)))) (tC (.int 0)))) (tAsg (tOp rAddI (tOp rSubI (tOp rMulI (tVar 1) (tOp rAddI (tC (.int 1)) (tCall (sp_lw_take K) [] E0 (tCons (tVar 0) (tCons (tC (.int 20)) (tNil)))))) (tC (.int 1))) (tCall (sp_lw_take K) [] E0 (tCons (tVar 0) (tCons (tC (.int 3)) (tNil))))) (gName 2)) (tNext))
            (tRet (tCB rMax2 (tCons (tC (.int 1)) (tCons (tCB rMin2 (tCons (tC (.int 999)) (tCons (tVar 2) (tNil)))) (tNil))))))

abbrev n_lw_start : List Str := ["bag", "preset", "pace_n", "held", "near", "e"]
abbrev t_lw_start (K : PySem.W.Frag) : TS :=
    tSeq (tAsg (tCall (sp_lw_take K) [] E0 (tCons (tVar 0) (tCons (tC (.int 2)) (tNil)))) (gName 3))
            (tSeq (tIfS (tTest (tOp rEq (tCall (sp_lw_take K) [] E0 (tCons (tVar 0) (tCons (tC (.int 2)) (tNil)))) (tC (.int 0)))) (tRet (tTup (tCons (tC (.int 0)) (tCons (tC (.int 0)) (tCons (tVar 3) (tNil)))))) (tNext))
            (tSeq (tAsg (tCB rMax2 (tCons (tC (.int 0)) (tCons (tCB rMin2 (tCons (tVar 1) (tCons (tOp rAddI (tOp rSubI (tOp rSubI (tVar 1) (tVar 2)) (tC (.int 1))) (tCall (sp_lw_take K) [] E0 (tCons (tVar 0) (tCons (tC (.int 3)) (tNil))))) (tNil)))) (tNil)))) (gName 4))
            (tSeq (tAsg (tCall (sp_lw_pick K) [] E0 (tCons (tVar 0) (tCons (tLst (tCons (tC (.int 0)) (tCons (tVar 1) (tCons (tOp rSubI (tVar 1) (tC (.int 1))) (tCons (tVar 4) (tCons (tCall (sp_lw_take K) [] E0 (tCons (tVar 0) (tCons (tOp rAddI (tVar 1) (tC (.int 1))) (tNil)))) (tNil))))))) (tNil)))) (gName 5))
            (tRet (tTup (tCons (tVar 5) (tCons (tCall (sp_lw_take K) [] E0 (tCons (tVar 0) (tCons (tC (.int 2)) (tNil)))) (tCons (tVar 3) (tNil)))))))))

abbrev n_lw_row : List Str := ["bag", "many", "rate", "p", "row", "k"]
abbrev t_lw_row (K : PySem.W.Frag) : TS :=
    tSeq (tAsg (tOp rAddI (tC (.int 1)) (tCall (sp_lw_take K) [] E0 (tCons (tVar 0) (tCons (tC (.int 60)) (tNil))))) (gName 1))
            (tSeq (tAsg (tCall (sp_lw_pick K) [] E0 (tCons (tVar 0) (tCons (tLst (tCons (tC (.int 2)) (tCons (tC (.int 2)) (tCons (tC (.int 4)) (tCons (tC (.int 9)) (tNil)))))) (tNil)))) (gName 2))
            (tSeq (tAsg (tCall (sp_lw_take K) [] E0 (tCons (tVar 0) (tCons (tC (.int 2)) (tNil)))) (gName 3))
            (tSeq (tAsg (tLst (tCons (tVar 3) (tNil))) (gName 4))
            (tSeq (tFor (iRng1 (tCons (tOp rSubI (tVar 1) (tC (.int 1))) (tNil))) (gName 5) (Evl.tCut (tIfS (tTest (tOp rEq (tCall (sp_lw_take K) [] E0 (tCons (tVar 0) (tCons (tVar 2) (tNil)))) (tC (.int 0)))) (tAsg (tOp rSubI (tC (.int 1)) (tVar 3)) (gName 3)) (tNext))
            (tDrop (tBM K "list" rAppend (tVar 4) (tCons (tVar 3) (tNil))))))
            (tRet (tVar 4))))))

abbrev n_lw_last : List Str := ["row", "p", "runs", "k"]
abbrev t_lw_last (K : PySem.W.Frag) : TS :=
    tSeq (tAsg (tLc (iRng1 (tCons (tCB (rLen K) (tCons (tVar 0) (tNil))) (tNil))) (gName 3) (tTest (tOp rEq (tOp (rIxL K) (tVar 0) (tVar 3)) (tVar 1))) (tVar 3) [3]) (gName 2))
            (tSeq (tIfS (tTest (tOp (rEqD K) (tVar 2) (tLst (tNil)))) (tRet (tUn rNegI (tC (.int 1)))) (tNext))
            (tRet (tOp (rIxL K) (tVar 2) (tUn rNegI (tC (.int 1))))))

abbrev n_lw_taken : List Str := ["preset", "pace_n", "start", "row", "taken", "before", "k", "busy"]
abbrev t_lw_taken (K : PySem.W.Frag) : TS :=
    tSeq (tAsg (tUn rNegI (tC (.int 1))) (gName 4))
            (tSeq (tAsg (tOp (rIxT K) (tVar 2) (tC (.int 2))) (gName 5))
            (tSeq (tFor (iRng1 (tCons (tCB (rLen K) (tCons (tVar 3) (tNil))) (tNil))) (gName 6) (Evl.tCut (tIfS (tTest (tOp rGe (tVar 4) (tC (.int 0)))) (tAsg (tOp rLt (tOp rMulI (tVar 1) (tOp rSubI (tOp rSubI (tVar 6) (tC (.int 1))) (tVar 4))) (tVar 0)) (gName 7)) (tAsg (tAndV (tOp rEq (tOp (rIxT K) (tVar 2) (tC (.int 1))) (tC (.int 1))) (tOrV (tOp rEq (tVar 6) (tC (.int 0))) (tOp rLt (tOp rAddI (tOp (rIxT K) (tVar 2) (tC (.int 0))) (tOp rMulI (tVar 1) (tVar 6))) (tVar 0)))) (gName 7)))
            (Evl.tCut (tIfS (tAnd (tTest (tOp rEq (tOp (rIxL K) (tVar 3) (tVar 6)) (tC (.int 1)))) (tAnd (tTest (tOp rEq (tVar 5) (tC (.int 0)))) (tNot (tB (tVar 7))))) (tAsg (tVar 6) (gName 4)) (tNext))
            (tAsg (tOp (rIxL K) (tVar 3) (tVar 6)) (gName 5)))))
            (tRet (tVar 4))))

abbrev n_lw_stand : List Str := ["mode", "preset", "pace_n", "start", "row", "many", "spent", "since", "held"]
abbrev t_lw_stand (K : PySem.W.Frag) : TS :=
    tSeq (tAsg (tCB (rLen K) (tCons (tVar 4) (tNil))) (gName 5))
            (tSeq (tAsg (tOp rAddI (tOp (rIxT K) (tVar 3) (tC (.int 0))) (tOp rMulI (tVar 2) (tVar 5))) (gName 6))
            (tSeq (tIfS (tTest (tOp rEq (tVar 0) (tC (.str "sum")))) (tSeq (tAsg (tOp rAddI (tOp (rIxT K) (tVar 3) (tC (.int 0))) (tOp rMulI (tVar 2) (tCB (rSum K) (tCons (tVar 4) (tNil))))) (gName 6))
            (tRet (tTup (tCons (tCB rMin2 (tCons (tVar 1) (tCons (tVar 6) (tNil)))) (tCons (tCB rInt1 (tCons (tOp rGe (tVar 6) (tVar 1)) (tNil))) (tCons (tOp (rIxT K) (tVar 3) (tC (.int 2))) (tNil))))))) (tNext))
            (tSeq (tIfS (tTest (tOp rEq (tVar 0) (tC (.str "on")))) (tSeq (tAsg (tCall (sp_lw_last K) [] E0 (tCons (tVar 4) (tCons (tC (.int 0)) (tNil)))) (gName 7))
            (Evl.tCut (tIfS (tTest (tOp rGe (tVar 7) (tC (.int 0)))) (tAsg (tOp rMulI (tVar 2) (tOp rSubI (tOp rSubI (tVar 5) (tC (.int 1))) (tVar 7))) (gName 6)) (tNext))
            (tRet (tTup (tCons (tCB rMin2 (tCons (tVar 1) (tCons (tVar 6) (tNil)))) (tCons (tCB rInt1 (tCons (tOp rGe (tVar 6) (tVar 1)) (tNil))) (tCons (tOp (rIxT K) (tVar 3) (tC (.int 2))) (tNil)))))))) (tNext))
            (tSeq (tAsg (tOp (rIxT K) (tVar 3) (tC (.int 2))) (gName 8))
            (tSeq (tAsg (tCall (sp_lw_last K) [] E0 (tCons (tVar 4) (tCons (tC (.int 1)) (tNil)))) (gName 7))
            (Evl.tCut (tIfS (tTest (tOp rEq (tVar 0) (tC (.str "pulse")))) (tSeq (tAsg (tOp (rIxL K) (tVar 4) (tUn rNegI (tC (.int 1)))) (gName 8))
            (tAsg (tCall (sp_lw_taken K) [] E0 (tCons (tVar 1) (tCons (tVar 2) (tCons (tVar 3) (tCons (tVar 4) (tNil)))))) (gName 7))) (tNext))
            (tSeq (tIfS (tAnd (tTest (tOp rLt (tVar 7) (tC (.int 0)))) (tTest (tOp rEq (tOp (rIxT K) (tVar 3) (tC (.int 1))) (tC (.int 0))))) (tRet (tTup (tCons (tOp (rIxT K) (tVar 3) (tC (.int 0))) (tCons (tC (.int 0)) (tCons (tVar 8) (tNil)))))) (tNext))
            (Evl.tCut (tIfS (tTest (tOp rGe (tVar 7) (tC (.int 0)))) (tAsg (tOp rMulI (tVar 2) (tOp rSubI (tOp rSubI (tVar 5) (tC (.int 1))) (tVar 7))) (gName 6)) (tNext))
            (tRet (tTup (tCons (tCB rMin2 (tCons (tVar 1) (tCons (tVar 6) (tNil)))) (tCons (tCB rInt1 (tCons (tOp rLt (tVar 6) (tVar 1)) (tNil))) (tCons (tVar 8) (tNil))))))))))))))

abbrev n_law : List Str := ["script", "bag", "mode", "pace_n", "preset", "start", "row", "cells", "k"]
abbrev t_law (K : PySem.W.Frag) : TS :=
    tSeq (tAsg (tCall (sp_lw_bag K) [] E0 (tCons (tVar 0) (tCons (tC (.int 0)) (tNil)))) (gName 1))
            (tSeq (tAsg (tCall (sp_lw_pick K) [] E0 (tCons (tVar 1) (tCons (tLst (tCons (tC (.str "on")) (tCons (tC (.str "off")) (tCons (tC (.str "pulse")) (tCons (tC (.str "sum")) (tNil)))))) (tNil)))) (gName 2))
            (tSeq (tAsg (tCall (sp_lw_size K) [] E0 (tCons (tVar 1) (tNil))) (gName 3))
            (tSeq (tAsg (tCall (sp_lw_preset K) [] E0 (tCons (tVar 1) (tCons (tVar 3) (tNil)))) (gName 4))
            (tSeq (tAsg (tCall (sp_lw_start K) [] E0 (tCons (tVar 1) (tCons (tVar 4) (tCons (tVar 3) (tNil))))) (gName 5))
            (tSeq (tAsg (tCall (sp_lw_row K) [] E0 (tCons (tCall (sp_lw_bag K) [] E0 (tCons (tVar 0) (tCons (tC (.int 1)) (tNil)))) (tNil))) (gName 6))
            (tSeq (tAsg (tVar 5) (gName 7))
            (tSeq (tFor (iRng1 (tCons (tCB (rLen K) (tCons (tVar 6) (tNil))) (tNil))) (gName 8) (tSeq (tAsg (tCall (sp_timer_step K) [] E0 (tCons (tVar 2) (tCons (tVar 4) (tCons (tVar 7) (tCons (tOp (rIxL K) (tVar 6) (tVar 8)) (tCons (tVar 3) (tNil))))))) (gName 7))
            (tIfS (tNot (tB (tCall (sp_lw_same K 4) [] E0 (tCons (tVar 7) (tCons (tCall (sp_lw_stand K) [] E0 (tCons (tVar 2) (tCons (tVar 4) (tCons (tVar 3) (tCons (tVar 5) (tCons (tSl (rSlL K) (tVar 6) (tNoPart) (tPart (tOp rAddI (tVar 8) (tC (.int 1))))) (tNil))))))) (tNil)))))) (tRet (tC (.bl false))) (tNext))))
            (tRet (tC (.bl true))))))))))

variable {K : PySem.W.Frag} {vs : List V} {H : Hp} {Q : VK} {E : XK}
theorem rd_timer_step (C : CF K) (h : sp_timer_step K vs H Q E) : t_timer_step K { nx := fun _ H' => Q .non H', rt := Q } (start n_timer_step vs) H := by
  obtain ⟨_, _, _, _, _, rfl, m, pr, t, ⟨e, q, l⟩, p, w, rfl, rfl, rfl, rfl, rfl, hx, k⟩ := h
  show t_timer_step K _ [some (.str m.str), some (.int pr), some (.ref t), some (.int p), some (.int w), none, none, none, none] H
  unfold Tup3 at hx k
  dsimp only at hx k
  cases m <;> dsimp only [Mode.str] <;> o_fieldsN <;> (refine k _ _ (by k_offL) (sqt_is (by k_subL) ?_); simp only [timerZ, b2z, *]; grind)
theorem rd_lw_size (C : CF K) (h : sp_lw_size K vs H Q E) : t_lw_size K { nx := fun _ H' => Q .non H', rt := Q } (start n_lw_size vs) H := by
  obtain ⟨_, rfl, p, rfl, hb, k⟩ := h
  show t_lw_size K _ [some (.ref p)] H
  k_places
  simp only [List.mem_cons, List.not_mem_nil, or_false] at *
  exact k _ _ (by omega) (by omega) (by k_allIn) (by k_subL)
theorem u_size {p : Addr} (hb : BagAt H p) (k : ∀ n H', 1 ≤ n → n ≤ 999 → Mu p H H' → BagAt H' p → Q (.int n) H') : sp_lw_size K [.ref p] H Q E := ⟨_, rfl, p, rfl, hb, k⟩
local macro_rules | `(tactic| k_caughtB) => `(tactic| ((with_reducible refine' u_size ?h1 (fun n H' h1 h2 hM hB => ?_)); (case h1 => k_subL)))
theorem rd_lw_preset (C : CF K) (h : sp_lw_preset K vs H Q E) : t_lw_preset K { nx := fun _ H' => Q .non H', rt := Q } (start n_lw_preset vs) H := by
  obtain ⟨_, _, rfl, p, w, rfl, rfl, hb, h1, h2, k⟩ := h
  show t_lw_preset K _ [some (.ref p), some (.int w), none] H
  o_fieldsN <;> exact k _ _ (by omega) (by omega) (by k_allIn) (by k_subL)
theorem rd_lw_start (C : CF K) (h : sp_lw_start K vs H Q E) : t_lw_start K { nx := fun _ H' => Q .non H', rt := Q } (start n_lw_start vs) H := by
  obtain ⟨_, _, _, rfl, p, pr, w, rfl, rfl, rfl, hb, h1, h2, k⟩ := h
  show t_lw_start K _ [some (.ref p), some (.int pr), some (.int w), none, none, none] H
  unfold Tup3 at k
  dsimp only at k
  o_fieldsN
  · rename_i held _ d0 d1 _ _ z _ _ _ _ _ hz t H1 _ _ h1
    exact k t 0 0 held H1 (SqT.of h1) (by omega) (by omega) (.inl rfl) (by unfold Bit; omega) (by k_allIn) (by k_subL)
  · rename_i held _ d0 d1 _ _ z _ _ _ _ _ hz a _ a0 a1 _ _ b _ b0 b1 _ _ _ _ _ _ _ e _ he _ _ q _ q0 q1 _ _ t H1 _ _ h1
    simp only [List.mem_cons, List.not_mem_nil, or_false] at he
    exact k t e q held H1 (SqT.of h1) (by omega) (by omega) (by unfold Bit; omega) (by unfold Bit; omega) (by k_allIn) (by k_subL)
theorem rd_lw_row (C : CF K) (h : sp_lw_row K vs H Q E) : t_lw_row K { nx := fun _ H' => Q .non H', rt := Q } (start n_lw_row vs) H := by
  obtain ⟨_, rfl, b, rfl, hb, k⟩ := h
  show t_lw_row K _ [some (.ref b), none, none, none, none, none] H
  k_places
  rename_i many _ m0 m1 _ _ _ _ _ _ _ rate _ hrate _ _ p _ p0 p1 _ _ r H1 hr _ h1
  have hf : H r = none := by k_memK
  have hrb : r ≠ b := by k_clsL
  have hM : Mu b H H1 := by k_allIn
  simp only [List.mem_cons, List.not_mem_nil, or_false] at hrate
  refine fr_use (fun i σ' H' => ∃ (p : Int) (v : Option V) (ns : List Int), σ' = [some (.ref b), some (.int (1 + many)), some (.int rate), some (.int p), some (.ref r), v] ∧ Bit p ∧ Mu b H H' ∧ BagAt H' b ∧
      H' r = some (.lst (ns.map V.int)) ∧ ns.length = i + 1 ∧ ∀ n ∈ ns, Bit n) ⟨p, _, [p], rfl, by unfold Bit; omega, hM, by k_subL, by k_subL, rfl, by simp; unfold Bit; omega⟩ ?_ ?_
  · rintro i _ H2 hi ⟨p, v, ns, rfl, hp, hM2, hB2, hr2, hn, hbit⟩
    k_places
    refine cut (fun σ' H' => Mu b H2 H' ∧ BagAt H' b ∧ ∃ p : Int, Bit p ∧ σ' = [some (.ref b), some (.int (1 + many)), some (.int rate), some (.int p), some (.ref r), some (.int (0 + (i : Int)))]) ?_ ?_
    · unfold Bit at hp ⊢
      o_fieldsN <;> exact ⟨by assumption, by assumption, _, by omega, rfl⟩
    · rintro _ H3 ⟨hM3, hB3, p, hp, rfl⟩
      have hr3 : H3 r = some (.lst (ns.map V.int)) := hM3.keep _ _ hrb hr2
      k_places
      refine ⟨p, _, ns ++ [p], rfl, hp, by k_allIn, by k_subL, ?_, by simp; omega, ?_⟩
      · rw [List.map_append]; assumption
      · intro n hn
        rcases List.mem_append.mp hn with h | h
        · exact hbit n h
        · rw [List.mem_singleton.mp h]; exact hp
  · rintro _ H2 ⟨p, v, ns, rfl, hp, hM2, hB2, hr2, hn, hbit⟩
    k_places
    exact k r ns _ hf hM2 hB2 hr2 (by omega) hbit
theorem getZ {ns : List Int} {i : Nat} (h : i < ns.length) : (ns.map V.int)[i]? = some (.int (ns.getD i 0)) := by
  rw [List.getElem?_map, List.getElem?_eq_getElem h]
  simp [h]
theorem rd_lw_last (C : CF K) (h : sp_lw_last K vs H Q E) : t_lw_last K { nx := fun _ H' => Q .non H', rt := Q } (start n_lw_last vs) H := by
  obtain ⟨_, _, rfl, r, ns, p, rfl, rfl, hr, hn, k⟩ := h
  show t_lw_last K _ [some (.ref r), some (.int p), none, none] H
  k_places
  rw [List.length_map, Int.toNat_natCast]
  refine lcr0_use (fun i => decide (ns.getD i 0 = p)) (fun i v _ => v = .int i) (fun i => firm_eq _) (by omega) ?_ ?_
  · intro i H3 hi hS3 Pv Pn kv kn
    have a1 : atI (ns.map V.int) (i : Int) = some (.int (ns.getD i 0)) := atI_nat (getZ hi)
    k_places
    refine c_iteb (fun e => ?_) (fun e => ?_) <;> k_places
    · exact kv e _ _ (Same.refl _) rfl
    · exact kn e _ (Same.refl _)
  · intro D us H3 hD hS3 h3 hP
    have hu := Paired.vals hP
    have hu2 : us = (((List.range ns.length).filter fun i => decide (ns.getD i 0 = p)).map fun i : Nat => (i : Int)).map V.int := by rw [hu, List.map_map]; rfl
    k_places
    rename_i e H4 he hS4 h4
    have k' : ∀ H', Same H H' → Q (.int ((((List.range ns.length).filter fun i => decide (ns.getD i 0 = p)).map fun i : Nat => (i : Int)).getLastD (-1))) H' := k
    generalize ((List.range ns.length).filter fun i => decide (ns.getD i 0 = p)).map (fun i : Nat => (i : Int)) = zs at hu2 k'
    subst hu2
    refine c_eqLI (ns := zs) (ms := []) (SqL.of (hS4 _ _ h3)) (SqL.of h4) rfl rfl ?_
    k_places
    refine c_ite (fun hz => ?_) (fun hz => ?_) <;> k_places
    · subst hz
      exact k' _ (by k_offL)
    · have a1 : atI (zs.map V.int) (-1) = some (.int (zs.getLastD (-1))) := by
        rcases snoc_or zs with rfl | ⟨r, y, rfl⟩
        · exact absurd rfl hz
        · rw [List.map_append]
          simp only [List.map_cons, List.map_nil]
          rw [atI_last]
          simp
      k_places
      exact k' _ (by k_offL)
theorem u_last {r : Addr} {ns : List Int} {p : Int} (hr : H r = some (.lst (ns.map V.int))) (hn : ns.length ≤ 60) (k : ∀ H', Same H H' → Q (.int (lastP p ns)) H') : sp_lw_last K [.ref r, .int p] H Q E := ⟨_, _, rfl, r, ns, p, rfl, rfl, hr, hn, k⟩
local macro_rules | `(tactic| k_caughtB) => `(tactic| ((with_reducible refine' u_last ?h1 ?h2 (fun H' hS => ?_)); (case h1 => k_subL); (case h2 => omega)))
theorem rd_lw_taken (C : CF K) (h : sp_lw_taken K vs H Q E) : t_lw_taken K { nx := fun _ H' => Q .non H', rt := Q } (start n_lw_taken vs) H := by
  obtain ⟨_, _, _, _, rfl, pr, w, t, r, ⟨e, q, l⟩, ns, rfl, rfl, rfl, rfl, hw1, hw2, hx, hr, hn, k⟩ := h
  show t_lw_taken K _ [some (.int pr), some (.int w), some (.ref t), some (.ref r), none, none, none, none] H
  unfold Tup3 at hx
  dsimp only at hx
  k_places
  rw [List.length_map, Int.toNat_natCast]
  refine fr0_use (fun i σ' H' => IsH H H' ∧ ∃ v7 v6, σ' = [some (.int pr), some (.int w), some (.ref t), some (.ref r), some (.int ((List.range i).foldl (takenStep pr w (e, q, l) ns) (-1, l)).1), some (.int ((List.range i).foldl (takenStep pr w (e, q, l) ns) (-1, l)).2), v6, v7]) ⟨rfl, _, _, rfl⟩ ?_ ?_
  · rintro i _ _ hi ⟨rfl, v7, v6, rfl⟩
    rw [List.range_succ, List.foldl_append, List.foldl_cons, List.foldl_nil]
    generalize (List.range i).foldl (takenStep pr w (e, q, l) ns) (-1, l) = s
    obtain ⟨c, b⟩ := s
    have a1 : atI (ns.map V.int) (i : Int) = some (.int (ns.getD i 0)) := atI_nat (getZ hi)
    have hi2 : (i : Int) < 60 := by omega
    have hcm : CMul w (i : Int) := .inr ⟨by omega, by omega⟩
    k_places
    refine cut (fun σ' H' => IsH H H' ∧ σ' = [some (.int pr), some (.int w), some (.ref t), some (.ref r), some (.int c), some (.int b), some (.int i), some (.bl (if 0 ≤ c then decide (w * ((i : Int) - 1 - c) < pr) else decide (q = 1) && (decide ((i : Int) = 0) || decide (e + w * (i : Int) < pr))))]) ?_ ?_
    · k_places
      refine c_ite (fun h => ?_) (fun h => ?_) <;> k_places
      · refine ⟨rfl, ?_⟩
        rw [if_pos h]
      · rw [if_neg h]
        refine c_ite (fun h => ?_) (fun h => ?_) <;> k_places
        · refine c_ite (fun h2 => ?_) (fun h2 => ?_) <;> k_places
          · exact ⟨rfl, by simp [h, h2]⟩
          · have h3 : ¬ i = 0 := by omega
            exact ⟨rfl, by simp [h, h3]⟩
        · exact ⟨rfl, by simp [h]⟩
    · rintro _ _ ⟨rfl, rfl⟩
      generalize hbz : (if 0 ≤ c then decide (w * ((i : Int) - 1 - c) < pr) else decide (q = 1) && (decide ((i : Int) = 0) || decide (e + w * (i : Int) < pr))) = busy
      have et : takenStep pr w (e, q, l) ns (c, b) i = (if (decide (ns.getD i 0 = 1) && decide (b = 0) && !busy) = true then (i : Int) else c, ns.getD i 0) := by
        rw [← hbz]
        rfl
      rw [et]
      refine cut (fun σ' H' => IsH H H' ∧ σ' = [some (.int pr), some (.int w), some (.ref t), some (.ref r), some (.int (if (decide (ns.getD i 0 = 1) && decide (b = 0) && !busy) = true then (i : Int) else c)), some (.int b), some (.int i), some (.bl busy)]) ?_ ?_
      · k_places
        refine c_iteb (fun h => ?_) (fun h => ?_) <;> k_places
        · refine ⟨rfl, ?_⟩
          rw [if_pos (by rw [← h, Bool.and_assoc])]
        · refine ⟨rfl, ?_⟩
          rw [if_neg (by rw [Bool.and_assoc, h]; decide)]
      · rintro _ _ ⟨rfl, rfl⟩
        k_places
        exact ⟨rfl, _, _, rfl⟩
  · rintro _ _ ⟨rfl, v7, v6, rfl⟩
    k_places
    exact k _ (Same.refl _)
theorem u_taken {pr w e q l : Int} {t r : Addr} {ns : List Int} (h1 : 1 ≤ w) (h2 : w ≤ 999) (hx : SqT K H t [.int e, .int q, .int l]) (hr : H r = some (.lst (ns.map V.int))) (hn : ns.length ≤ 60) (k : ∀ H', Same H H' → Q (.int (taken pr w (e, q, l) ns)) H') :
    sp_lw_taken K [.int pr, .int w, .ref t, .ref r] H Q E := ⟨_, _, _, _, rfl, pr, w, t, r, (e, q, l), ns, rfl, rfl, rfl, rfl, h1, h2, hx, hr, hn, k⟩
local macro_rules | `(tactic| k_caughtB) => `(tactic| ((with_reducible refine' u_taken ?h1 ?h2 ?h3 ?h4 ?h5 (fun H' hS => ?_)); (case h1 => omega); (case h2 => omega); (case h3 => k_subL); (case h4 => k_subL); (case h5 => omega)))
theorem rd_lw_stand (C : CF K) (h : sp_lw_stand K vs H Q E) : t_lw_stand K { nx := fun _ H' => Q .non H', rt := Q } (start n_lw_stand vs) H := by
  obtain ⟨_, _, _, _, _, rfl, m, pr, w, t, r, ⟨v, q, l⟩, ns, rfl, rfl, rfl, rfl, rfl, hw1, hw2, hx0, hr, hn, hne, k⟩ := h
  show t_lw_stand K _ [some (.str m.str), some (.int pr), some (.int w), some (.ref t), some (.ref r), none, none, none, none] H
  have hx := hx0
  unfold Tup3 at hx k
  dsimp only at hx k
  have hlen : (ns.map V.int).length = ns.length := List.length_map ..
  have hl2 : (ns.length : Int) ≤ 60 := by omega
  have a1 : atI (ns.map V.int) (-1) = some (.int (ns.getLastD l)) := by
    rcases snoc_or ns with rfl | ⟨r, y, rfl⟩
    · exact absurd rfl hne
    · rw [List.map_append]
      simp only [List.map_cons, List.map_nil]
      rw [atI_last]
      simp
  cases m <;> dsimp only [Mode.str] <;> o_fieldsN <;> (refine k _ _ (by k_offL) (sqt_is (by k_subL) ?_); simp only [standZ, b2z, hlen] <;> grind)
section
variable {m : Mode} {pr p w : Int} {t r b : Addr} {x : Int × Int × Int} {ns : List Int}
theorem u_timer (hx : Tup3 K H t x) (k : ∀ u H', Same H H' → Tup3 K H' u (timerZ m pr x.1 x.2.1 x.2.2 p w) → Q (.ref u) H') : sp_timer_step K [.str m.str, .int pr, .ref t, .int p, .int w] H Q E :=
  ⟨_, _, _, _, _, rfl, m, pr, t, x, p, w, rfl, rfl, rfl, rfl, rfl, hx, k⟩
theorem u_preset (hb : BagAt H b) (h1 : 1 ≤ w) (h2 : w ≤ 999) (k : ∀ n H', 1 ≤ n → n ≤ 999 → Mu b H H' → BagAt H' b → Q (.int n) H') : sp_lw_preset K [.ref b, .int w] H Q E := ⟨_, _, rfl, b, w, rfl, rfl, hb, h1, h2, k⟩
theorem u_start (hb : BagAt H b) (h1 : 1 ≤ pr) (h2 : pr ≤ 999) (k : ∀ t v q l H', Tup3 K H' t (v, q, l) → 0 ≤ v → v ≤ pr → Bit q → Bit l → Mu b H H' → BagAt H' b → Q (.ref t) H') : sp_lw_start K [.ref b, .int pr, .int w] H Q E :=
  ⟨_, _, _, rfl, b, pr, w, rfl, rfl, rfl, hb, h1, h2, k⟩
theorem u_row (hb : BagAt H b) (k : ∀ r (ns : List Int) H', H r = none → Mu b H H' → BagAt H' b → H' r = some (.lst (ns.map V.int)) → ns.length ≤ 60 → (∀ n ∈ ns, Bit n) → Q (.ref r) H') : sp_lw_row K [.ref b] H Q E := ⟨_, rfl, b, rfl, hb, k⟩
theorem u_stand (h1 : 1 ≤ w) (h2 : w ≤ 999) (hx : Tup3 K H t x) (hr : H r = some (.lst (ns.map V.int))) (hn : ns.length ≤ 60) (h0 : ns ≠ []) (k : ∀ u H', Same H H' → Tup3 K H' u (standZ m pr w x ns) → Q (.ref u) H') : sp_lw_stand K [.str m.str, .int pr, .int w, .ref t, .ref r] H Q E :=
  ⟨_, _, _, _, _, rfl, m, pr, w, t, r, x, ns, rfl, rfl, rfl, rfl, rfl, h1, h2, hx, hr, hn, h0, k⟩
end
local macro_rules | `(tactic| k_caughtB) => `(tactic| ((with_reducible refine' u_preset ?h1 ?h2 ?h3 (fun n H' h1 h2 hM hB => ?_)); (case h1 => k_subL); (case h2 => omega); (case h3 => omega)))
local macro_rules | `(tactic| k_caughtB) => `(tactic| ((with_reducible refine' u_start ?h1 ?h2 ?h3 (fun t v q l H' ht h1 h2 h3 h4 hM hB => ?_)); (case h1 => k_subL); (case h2 => omega); (case h3 => omega)))
local macro_rules | `(tactic| k_caughtB) => `(tactic| ((with_reducible refine' u_row ?h1 (fun r ns H' hr hM hB h1 h2 h3 => ?_)); (case h1 => k_subL)))
theorem rd_law (C : CF K) (h : sp_law K vs H Q E) : t_law K { nx := fun _ H' => Q .non H', rt := Q } (start n_law vs) H := by
  obtain ⟨_, rfl, p, ns, rfl, hl, hn, k⟩ := h
  show t_law K _ [some (.ref p), none, none, none, none, none, none, none, none] H
  k_places
  rename_i b _ _ _ _ _ _ _ _ _ md _ hmd _ _ w _ w1 w2 _ _ pr _ pr1 pr2 _ _ t v q l _ hx v0 v1 hq hl' _ _ b2 _ _ _ _ r row H5 hr hM5 hB5 hr5 hn5 hbit
  obtain ⟨m, rfl⟩ : ∃ m : Mode, md = m.str := by
    simp only [List.mem_cons, List.not_mem_nil, or_false] at hmd
    rcases hmd with rfl | rfl | rfl | rfl
    · exact ⟨.on, rfl⟩
    · exact ⟨.off, rfl⟩
    · exact ⟨.pulse, rfl⟩
    · exact ⟨.sum, rfl⟩
  have hx5 : Tup3 K H5 t (v, q, l) := by unfold Tup3 at hx ⊢; k_subL
  rw [List.length_map, Int.toNat_natCast]
  refine fr0_use (fun i σ' H' => ∃ c v8, σ' = [some (.ref p), some (.ref b), some (.str m.str), some (.int w), some (.int pr), some (.ref t), some (.ref r), some (.ref c), v8] ∧ Same H5 H' ∧
      Tup3 K H' c (if i = 0 then (v, q, l) else standZ m pr w (v, q, l) (row.take i))) ⟨t, _, rfl, Same.refl _, hx5⟩ ?_ ?_
  · rintro i _ H6 hi ⟨c, v8, rfl, hS6, hy⟩
    have a1 : atI (row.map V.int) (i : Int) = some (.int (row.getD i 0)) := atI_nat (getZ hi)
    have hp : Bit (row.getD i 0) := hbit _ (by rw [List.getD_eq_getElem?_getD, List.getElem?_eq_getElem hi]; exact List.getElem_mem hi)
    k_places
    refine u_timer hy fun u H7 hS7 hu => ?_
    have hi2 : row.take (i + 1) = row.take i ++ [row.getD i 0] := by rw [List.take_add_one, List.getElem?_eq_getElem hi, List.getD_eq_getElem?_getD, List.getElem?_eq_getElem hi]; rfl
    have hst : Tup3 K H7 u (standZ m pr w (v, q, l) (row.take (i + 1))) := by
      rw [hi2]
      by_cases h0 : i = 0
      · subst h0
        rw [if_pos rfl] at hu
        rw [stand_one (x := (v, q, l)) pr1 w1 v0 v1 hq hl' hp] at hu
        exact hu
      · rw [if_neg h0] at hu
        rw [stand_more (x := (v, q, l)) pr1 w1 v0 v1 hq hl' hp (by have : 0 < (row.take i).length := by { rw [List.length_take]; omega }; exact List.length_pos_iff.mp this) (fun n hn => hbit n (List.mem_of_mem_take hn))] at hu
        exact hu
    k_places
    refine' c_slL ?hl fun z H8 hz hS8 h8 => ?_
    case hl => k_subL
    have e8 : ((i : Int) + 1).toNat = i + 1 := by omega
    rw [cutV_take (by omega), e8, ← List.map_take] at h8
    refine' u_stand (x := (v, q, l)) w1 w2 ?h1 h8 ?h2 ?h3 fun u2 H9 hS9 hu2 => ?_
    case h1 => unfold Tup3 at hx5 ⊢; k_subL
    case h2 => rw [List.length_take]; omega
    case h3 => rw [hi2]; simp
    have h7 : Tup3 K H9 u (standZ m pr w (v, q, l) (row.take (i + 1))) := sqt_s (hS8.trans hS9) hst
    k_places
    refine u_same h7.dp hu2.dp (by simp [dep, depAll]) (by simp [wid, widAll]) ?_
    k_places
    exact ⟨u, _, rfl, by k_offL, h7⟩
  · rintro _ H6 ⟨c, v8, rfl, hS6, hy⟩
    k_places
    exact k _
end R
namespace R
open PySem PySem.Spec PyProof.Rows L2
/-! ### the head's hook, one more Bool -/
open He in
def obsRG (n : Nat) (fa : List Fa) (fn : List DefD) (xb : PySem.W.Frag → Bool) (g : Addr → Option Obj) : AlD × Bool := (obsD fa fn (frG g (asD g n)), xb (frG g (asD g n)))
open He in
def hookR (n : Nat) (fa : List Fa) (fn : List DefD) (xb : PySem.W.Frag → Bool) : PySem.W.Hook where
  α := AlD × Bool
  obs := fun s => obsRG n fa fn xb s.heap.get?
  val := fun _ => (valD fn, true)
  says := fun _ h => ∃ K : PySem.W.Frag, K.In h ∧ SaysD fa fn K ∧ xb K = true
  of := fun _ _ e => ⟨_, frG_in, congrArg Prod.fst e, congrArg Prod.snd e⟩
  keeps := fun _ _ _ ⟨K, hK, c⟩ k => ⟨K, PySem.W.Frag.In.keeps hK k, c⟩
theorem obsRG_eq {n : Nat} {fa : List He.Fa} {fn : List He.DefD} {xb : PySem.W.Frag → Bool} {g : Addr → Option Obj} {s : Shared} (h : ∀ a, g a = s.heap.get? a) : obsRG n fa fn xb g = (hookR n fa fn xb).obs s := by
  have e : g = s.heap.get? := funext h
  rw [e] <;> rfl
end R
namespace R
open PySem PySem.Spec PyProof.Rows L2
def top (i : Nat) : Stmt := PySem.Challenge.pw_rungstead_k15_timer_rows.main.body.getD i (.Pass ⟨0, 0, 0, 0⟩)
abbrev s_timer_step : Stmt := top 1
theorem sc_timer_step : FnScope n_timer_step ["mode", "preset", "cells", "p", "pace"] (defScope s_timer_step) := ⟨rfl, rfl, rfl, by decide +kernel, rfl, by decide +kernel, by decide +kernel⟩

abbrev s_lw_bag : Stmt := top 3
theorem sc_lw_bag : FnScope n_lw_bag ["script", "at"] (defScope s_lw_bag) := ⟨rfl, rfl, rfl, by decide +kernel, rfl, by decide +kernel, by decide +kernel⟩

abbrev s_lw_take : Stmt := top 4
theorem sc_lw_take : FnScope n_lw_take ["bag", "many"] (defScope s_lw_take) := ⟨rfl, rfl, rfl, by decide +kernel, rfl, by decide +kernel, by decide +kernel⟩

abbrev s_lw_pick : Stmt := top 5
theorem sc_lw_pick : FnScope n_lw_pick ["bag", "menu"] (defScope s_lw_pick) := ⟨rfl, rfl, rfl, by decide +kernel, rfl, by decide +kernel, by decide +kernel⟩

abbrev s_lw_same : Stmt := top 6
theorem sc_lw_same : FnScope n_lw_same ["got", "due"] (defScope s_lw_same) := ⟨rfl, rfl, rfl, by decide +kernel, rfl, by decide +kernel, by decide +kernel⟩

abbrev s_lw_size : Stmt := top 7
theorem sc_lw_size : FnScope n_lw_size ["bag"] (defScope s_lw_size) := ⟨rfl, rfl, rfl, by decide +kernel, rfl, by decide +kernel, by decide +kernel⟩

abbrev s_lw_preset : Stmt := top 8
theorem sc_lw_preset : FnScope n_lw_preset ["bag", "pace_n"] (defScope s_lw_preset) := ⟨rfl, rfl, rfl, by decide +kernel, rfl, by decide +kernel, by decide +kernel⟩

abbrev s_lw_start : Stmt := top 9
theorem sc_lw_start : FnScope n_lw_start ["bag", "preset", "pace_n"] (defScope s_lw_start) := ⟨rfl, rfl, rfl, by decide +kernel, rfl, by decide +kernel, by decide +kernel⟩

abbrev s_lw_row : Stmt := top 10
theorem sc_lw_row : FnScope n_lw_row ["bag"] (defScope s_lw_row) := ⟨rfl, rfl, rfl, by decide +kernel, rfl, by decide +kernel, by decide +kernel⟩

abbrev s_lw_last : Stmt := top 11
theorem sc_lw_last : FnScope n_lw_last ["row", "p"] (defScope s_lw_last) := ⟨rfl, rfl, rfl, by decide +kernel, rfl, by decide +kernel, by decide +kernel⟩

abbrev s_lw_taken : Stmt := top 12
theorem sc_lw_taken : FnScope n_lw_taken ["preset", "pace_n", "start", "row"] (defScope s_lw_taken) := ⟨rfl, rfl, rfl, by decide +kernel, rfl, by decide +kernel, by decide +kernel⟩

abbrev s_lw_stand : Stmt := top 13
theorem sc_lw_stand : FnScope n_lw_stand ["mode", "preset", "pace_n", "start", "row"] (defScope s_lw_stand) := ⟨rfl, rfl, rfl, by decide +kernel, rfl, by decide +kernel, by decide +kernel⟩

abbrev s_law : Stmt := top 14
theorem sc_law : FnScope n_law ["script"] (defScope s_law) := ⟨rfl, rfl, rfl, by decide +kernel, rfl, by decide +kernel, by decide +kernel⟩

abbrev d_timer_step : He.DefD := ⟨("timer_step", none), "timer_step", "timer_step", defArgs s_timer_step, defBody s_timer_step, defScope s_timer_step, [], []⟩

abbrev d_lw_bag : He.DefD := ⟨("_law_bag", none), "_law_bag", "_law_bag", defArgs s_lw_bag, defBody s_lw_bag, defScope s_lw_bag, [], []⟩

abbrev d_lw_take : He.DefD := ⟨("_law_take", none), "_law_take", "_law_take", defArgs s_lw_take, defBody s_lw_take, defScope s_lw_take, [], []⟩

abbrev d_lw_pick : He.DefD := ⟨("_law_pick", none), "_law_pick", "_law_pick", defArgs s_lw_pick, defBody s_lw_pick, defScope s_lw_pick, [], []⟩

abbrev d_lw_same : He.DefD := ⟨("_law_same", none), "_law_same", "_law_same", defArgs s_lw_same, defBody s_lw_same, defScope s_lw_same, [], []⟩

abbrev d_lw_size : He.DefD := ⟨("_law_size", none), "_law_size", "_law_size", defArgs s_lw_size, defBody s_lw_size, defScope s_lw_size, [], []⟩

abbrev d_lw_preset : He.DefD := ⟨("_law_preset", none), "_law_preset", "_law_preset", defArgs s_lw_preset, defBody s_lw_preset, defScope s_lw_preset, [], []⟩

abbrev d_lw_start : He.DefD := ⟨("_law_start", none), "_law_start", "_law_start", defArgs s_lw_start, defBody s_lw_start, defScope s_lw_start, [], []⟩

abbrev d_lw_row : He.DefD := ⟨("_law_row", none), "_law_row", "_law_row", defArgs s_lw_row, defBody s_lw_row, defScope s_lw_row, [], []⟩

abbrev d_lw_last : He.DefD := ⟨("_law_last", none), "_law_last", "_law_last", defArgs s_lw_last, defBody s_lw_last, defScope s_lw_last, [], []⟩

abbrev d_lw_taken : He.DefD := ⟨("_law_taken", none), "_law_taken", "_law_taken", defArgs s_lw_taken, defBody s_lw_taken, defScope s_lw_taken, [], []⟩

abbrev d_lw_stand : He.DefD := ⟨("_law_stand", none), "_law_stand", "_law_stand", defArgs s_lw_stand, defBody s_lw_stand, defScope s_lw_stand, [], []⟩

abbrev d_law : He.DefD := ⟨("law", none), "law", "law", defArgs s_law, defBody s_law, defScope s_law, [], []⟩

def fn : List He.DefD := [d_timer_step, d_lw_bag, d_lw_take, d_lw_pick, d_lw_same, d_lw_size, d_lw_preset, d_lw_start, d_lw_row, d_lw_last, d_lw_taken, d_lw_stand, d_law]
def fa : List He.Fa := [.free "len", .free "int", .glo "_law_take", .free "tuple", .free "isinstance", .free "list", .free "range", .glo "_law_same", .free "bool", .free "str", .free "min", .glo "_law_pick", .glo "_law_size", .free "max", .free "sum", .glo "_law_last", .glo "_law_taken", .glo "_law_bag", .glo "_law_preset", .glo "_law_start", .glo "_law_row", .glo "timer_step", .glo "_law_stand", .glo "law"]
def xb : PySem.W.Frag → Bool := fun _ => true
/-- what the top has left -/
structure Tx (K : PySem.W.Frag) (mg : Str → Option Value) : Prop where
  ex : ∃ h : Heap, K.In h ∧ h.Ns mainGlobals mg
  c : He.SaysD fa fn K
  x : xb K = true
section
variable {K : PySem.W.Frag} {mg : Str → Option Value}
theorem b_len (T : Tx K mg) : mg "len" = none := T.ex.elim fun _ e => He.free_ok e.1 e.2 (T.c.fact 0 rfl)
theorem b_int (T : Tx K mg) : mg "int" = none := T.ex.elim fun _ e => He.free_ok e.1 e.2 (T.c.fact 1 rfl)
theorem g_lw_take (T : Tx K mg) : mg "_law_take" = some (.ref (He.ga K "_law_take")) := T.ex.elim fun _ e => He.glo_ok e.1 e.2 (T.c.fact 2 rfl)
theorem b_tuple (T : Tx K mg) : mg "tuple" = none := T.ex.elim fun _ e => He.free_ok e.1 e.2 (T.c.fact 3 rfl)
theorem b_isinstance (T : Tx K mg) : mg "isinstance" = none := T.ex.elim fun _ e => He.free_ok e.1 e.2 (T.c.fact 4 rfl)
theorem b_list (T : Tx K mg) : mg "list" = none := T.ex.elim fun _ e => He.free_ok e.1 e.2 (T.c.fact 5 rfl)
theorem b_range (T : Tx K mg) : mg "range" = none := T.ex.elim fun _ e => He.free_ok e.1 e.2 (T.c.fact 6 rfl)
theorem g_lw_same (T : Tx K mg) : mg "_law_same" = some (.ref (He.ga K "_law_same")) := T.ex.elim fun _ e => He.glo_ok e.1 e.2 (T.c.fact 7 rfl)
theorem b_bool (T : Tx K mg) : mg "bool" = none := T.ex.elim fun _ e => He.free_ok e.1 e.2 (T.c.fact 8 rfl)
theorem b_str (T : Tx K mg) : mg "str" = none := T.ex.elim fun _ e => He.free_ok e.1 e.2 (T.c.fact 9 rfl)
theorem b_min (T : Tx K mg) : mg "min" = none := T.ex.elim fun _ e => He.free_ok e.1 e.2 (T.c.fact 10 rfl)
theorem g_lw_pick (T : Tx K mg) : mg "_law_pick" = some (.ref (He.ga K "_law_pick")) := T.ex.elim fun _ e => He.glo_ok e.1 e.2 (T.c.fact 11 rfl)
theorem g_lw_size (T : Tx K mg) : mg "_law_size" = some (.ref (He.ga K "_law_size")) := T.ex.elim fun _ e => He.glo_ok e.1 e.2 (T.c.fact 12 rfl)
theorem b_max (T : Tx K mg) : mg "max" = none := T.ex.elim fun _ e => He.free_ok e.1 e.2 (T.c.fact 13 rfl)
theorem b_sum (T : Tx K mg) : mg "sum" = none := T.ex.elim fun _ e => He.free_ok e.1 e.2 (T.c.fact 14 rfl)
theorem g_lw_last (T : Tx K mg) : mg "_law_last" = some (.ref (He.ga K "_law_last")) := T.ex.elim fun _ e => He.glo_ok e.1 e.2 (T.c.fact 15 rfl)
theorem g_lw_taken (T : Tx K mg) : mg "_law_taken" = some (.ref (He.ga K "_law_taken")) := T.ex.elim fun _ e => He.glo_ok e.1 e.2 (T.c.fact 16 rfl)
theorem g_lw_bag (T : Tx K mg) : mg "_law_bag" = some (.ref (He.ga K "_law_bag")) := T.ex.elim fun _ e => He.glo_ok e.1 e.2 (T.c.fact 17 rfl)
theorem g_lw_preset (T : Tx K mg) : mg "_law_preset" = some (.ref (He.ga K "_law_preset")) := T.ex.elim fun _ e => He.glo_ok e.1 e.2 (T.c.fact 18 rfl)
theorem g_lw_start (T : Tx K mg) : mg "_law_start" = some (.ref (He.ga K "_law_start")) := T.ex.elim fun _ e => He.glo_ok e.1 e.2 (T.c.fact 19 rfl)
theorem g_lw_row (T : Tx K mg) : mg "_law_row" = some (.ref (He.ga K "_law_row")) := T.ex.elim fun _ e => He.glo_ok e.1 e.2 (T.c.fact 20 rfl)
theorem g_timer_step (T : Tx K mg) : mg "timer_step" = some (.ref (He.ga K "timer_step")) := T.ex.elim fun _ e => He.glo_ok e.1 e.2 (T.c.fact 21 rfl)
theorem g_lw_stand (T : Tx K mg) : mg "_law_stand" = some (.ref (He.ga K "_law_stand")) := T.ex.elim fun _ e => He.glo_ok e.1 e.2 (T.c.fact 22 rfl)
theorem g_law (T : Tx K mg) : mg "law" = some (.ref (He.ga K "law")) := T.ex.elim fun _ e => He.glo_ok e.1 e.2 (T.c.fact 23 rfl)
noncomputable def fd_timer_step (T : Tx K mg) : FuncData := (T.c.def_ 0 (d := d_timer_step) rfl).choose
theorem F_timer_step (T : Tx K mg) : FunD K "timer_step" "timer_step" (defArgs s_timer_step) (defBody s_timer_step) (defScope s_timer_step) [] [] (He.fAd K d_timer_step.at_) (fd_timer_step T) := (T.c.def_ 0 (d := d_timer_step) rfl).choose_spec
theorem B_timer_step (T : Tx K mg) : Binds K (fd_timer_step T) ["mode", "preset", "cells", "p", "pace"] [] := (F_timer_step T).bindsN fun _ _ _ _ _ _ us hl => match us, hl with | [_, _, _, _, _], _ => rfl
noncomputable def fd_lw_bag (T : Tx K mg) : FuncData := (T.c.def_ 1 (d := d_lw_bag) rfl).choose
theorem F_lw_bag (T : Tx K mg) : FunD K "_law_bag" "_law_bag" (defArgs s_lw_bag) (defBody s_lw_bag) (defScope s_lw_bag) [] [] (He.fAd K d_lw_bag.at_) (fd_lw_bag T) := (T.c.def_ 1 (d := d_lw_bag) rfl).choose_spec
theorem B_lw_bag (T : Tx K mg) : Binds K (fd_lw_bag T) ["script", "at"] [] := (F_lw_bag T).bindsN fun _ _ _ _ _ _ us hl => match us, hl with | [_, _], _ => rfl
noncomputable def fd_lw_take (T : Tx K mg) : FuncData := (T.c.def_ 2 (d := d_lw_take) rfl).choose
theorem F_lw_take (T : Tx K mg) : FunD K "_law_take" "_law_take" (defArgs s_lw_take) (defBody s_lw_take) (defScope s_lw_take) [] [] (He.fAd K d_lw_take.at_) (fd_lw_take T) := (T.c.def_ 2 (d := d_lw_take) rfl).choose_spec
theorem B_lw_take (T : Tx K mg) : Binds K (fd_lw_take T) ["bag", "many"] [] := (F_lw_take T).bindsN fun _ _ _ _ _ _ us hl => match us, hl with | [_, _], _ => rfl
noncomputable def fd_lw_pick (T : Tx K mg) : FuncData := (T.c.def_ 3 (d := d_lw_pick) rfl).choose
theorem F_lw_pick (T : Tx K mg) : FunD K "_law_pick" "_law_pick" (defArgs s_lw_pick) (defBody s_lw_pick) (defScope s_lw_pick) [] [] (He.fAd K d_lw_pick.at_) (fd_lw_pick T) := (T.c.def_ 3 (d := d_lw_pick) rfl).choose_spec
theorem B_lw_pick (T : Tx K mg) : Binds K (fd_lw_pick T) ["bag", "menu"] [] := (F_lw_pick T).bindsN fun _ _ _ _ _ _ us hl => match us, hl with | [_, _], _ => rfl
noncomputable def fd_lw_same (T : Tx K mg) : FuncData := (T.c.def_ 4 (d := d_lw_same) rfl).choose
theorem F_lw_same (T : Tx K mg) : FunD K "_law_same" "_law_same" (defArgs s_lw_same) (defBody s_lw_same) (defScope s_lw_same) [] [] (He.fAd K d_lw_same.at_) (fd_lw_same T) := (T.c.def_ 4 (d := d_lw_same) rfl).choose_spec
theorem B_lw_same (T : Tx K mg) : Binds K (fd_lw_same T) ["got", "due"] [] := (F_lw_same T).bindsN fun _ _ _ _ _ _ us hl => match us, hl with | [_, _], _ => rfl
noncomputable def fd_lw_size (T : Tx K mg) : FuncData := (T.c.def_ 5 (d := d_lw_size) rfl).choose
theorem F_lw_size (T : Tx K mg) : FunD K "_law_size" "_law_size" (defArgs s_lw_size) (defBody s_lw_size) (defScope s_lw_size) [] [] (He.fAd K d_lw_size.at_) (fd_lw_size T) := (T.c.def_ 5 (d := d_lw_size) rfl).choose_spec
theorem B_lw_size (T : Tx K mg) : Binds K (fd_lw_size T) ["bag"] [] := (F_lw_size T).bindsN fun _ _ _ _ _ _ us hl => match us, hl with | [_], _ => rfl
noncomputable def fd_lw_preset (T : Tx K mg) : FuncData := (T.c.def_ 6 (d := d_lw_preset) rfl).choose
theorem F_lw_preset (T : Tx K mg) : FunD K "_law_preset" "_law_preset" (defArgs s_lw_preset) (defBody s_lw_preset) (defScope s_lw_preset) [] [] (He.fAd K d_lw_preset.at_) (fd_lw_preset T) := (T.c.def_ 6 (d := d_lw_preset) rfl).choose_spec
theorem B_lw_preset (T : Tx K mg) : Binds K (fd_lw_preset T) ["bag", "pace_n"] [] := (F_lw_preset T).bindsN fun _ _ _ _ _ _ us hl => match us, hl with | [_, _], _ => rfl
noncomputable def fd_lw_start (T : Tx K mg) : FuncData := (T.c.def_ 7 (d := d_lw_start) rfl).choose
theorem F_lw_start (T : Tx K mg) : FunD K "_law_start" "_law_start" (defArgs s_lw_start) (defBody s_lw_start) (defScope s_lw_start) [] [] (He.fAd K d_lw_start.at_) (fd_lw_start T) := (T.c.def_ 7 (d := d_lw_start) rfl).choose_spec
theorem B_lw_start (T : Tx K mg) : Binds K (fd_lw_start T) ["bag", "preset", "pace_n"] [] := (F_lw_start T).bindsN fun _ _ _ _ _ _ us hl => match us, hl with | [_, _, _], _ => rfl
noncomputable def fd_lw_row (T : Tx K mg) : FuncData := (T.c.def_ 8 (d := d_lw_row) rfl).choose
theorem F_lw_row (T : Tx K mg) : FunD K "_law_row" "_law_row" (defArgs s_lw_row) (defBody s_lw_row) (defScope s_lw_row) [] [] (He.fAd K d_lw_row.at_) (fd_lw_row T) := (T.c.def_ 8 (d := d_lw_row) rfl).choose_spec
theorem B_lw_row (T : Tx K mg) : Binds K (fd_lw_row T) ["bag"] [] := (F_lw_row T).bindsN fun _ _ _ _ _ _ us hl => match us, hl with | [_], _ => rfl
noncomputable def fd_lw_last (T : Tx K mg) : FuncData := (T.c.def_ 9 (d := d_lw_last) rfl).choose
theorem F_lw_last (T : Tx K mg) : FunD K "_law_last" "_law_last" (defArgs s_lw_last) (defBody s_lw_last) (defScope s_lw_last) [] [] (He.fAd K d_lw_last.at_) (fd_lw_last T) := (T.c.def_ 9 (d := d_lw_last) rfl).choose_spec
theorem B_lw_last (T : Tx K mg) : Binds K (fd_lw_last T) ["row", "p"] [] := (F_lw_last T).bindsN fun _ _ _ _ _ _ us hl => match us, hl with | [_, _], _ => rfl
noncomputable def fd_lw_taken (T : Tx K mg) : FuncData := (T.c.def_ 10 (d := d_lw_taken) rfl).choose
theorem F_lw_taken (T : Tx K mg) : FunD K "_law_taken" "_law_taken" (defArgs s_lw_taken) (defBody s_lw_taken) (defScope s_lw_taken) [] [] (He.fAd K d_lw_taken.at_) (fd_lw_taken T) := (T.c.def_ 10 (d := d_lw_taken) rfl).choose_spec
theorem B_lw_taken (T : Tx K mg) : Binds K (fd_lw_taken T) ["preset", "pace_n", "start", "row"] [] := (F_lw_taken T).bindsN fun _ _ _ _ _ _ us hl => match us, hl with | [_, _, _, _], _ => rfl
noncomputable def fd_lw_stand (T : Tx K mg) : FuncData := (T.c.def_ 11 (d := d_lw_stand) rfl).choose
theorem F_lw_stand (T : Tx K mg) : FunD K "_law_stand" "_law_stand" (defArgs s_lw_stand) (defBody s_lw_stand) (defScope s_lw_stand) [] [] (He.fAd K d_lw_stand.at_) (fd_lw_stand T) := (T.c.def_ 11 (d := d_lw_stand) rfl).choose_spec
theorem B_lw_stand (T : Tx K mg) : Binds K (fd_lw_stand T) ["mode", "preset", "pace_n", "start", "row"] [] := (F_lw_stand T).bindsN fun _ _ _ _ _ _ us hl => match us, hl with | [_, _, _, _, _], _ => rfl
noncomputable def fd_law (T : Tx K mg) : FuncData := (T.c.def_ 12 (d := d_law) rfl).choose
theorem F_law (T : Tx K mg) : FunD K "law" "law" (defArgs s_law) (defBody s_law) (defScope s_law) [] [] (He.fAd K d_law.at_) (fd_law T) := (T.c.def_ 12 (d := d_law) rfl).choose_spec
theorem B_law (T : Tx K mg) : Binds K (fd_law T) ["script"] [] := (F_law T).bindsN fun _ _ _ _ _ _ us hl => match us, hl with | [_], _ => rfl
end
variable {P : Program} {w : World} {K : PySem.W.Frag} {mg : Str → Option Value} {base : Heap}
theorem Tx.cf (T : Tx K mg) : CF K := ⟨trivial⟩
theorem ok_timer_step (T : Tx K mg) : FnOk P w K mg base CX0 1 (He.fAd K d_timer_step.at_) (fd_timer_step T) ["mode", "preset", "cells", "p", "pace"] (sp_timer_step K) := by
  refine (F_timer_step T).ok sc_timer_step (fun vs H Q E h => Sp5.len h) (fun cdv A outer s H vs Q E hr h => ⟨t_timer_step K, PSs.nox ?_, rd_timer_step T.cf h⟩)
  exact pss_cons (ps_asg (pv 2) (pg_tup (by rfl) (pgs_cons (pg_name (i := 5) sc_timer_step.nd rfl (Or.inl rfl)) (pgs_cons (pg_name (i := 6) sc_timer_step.nd rfl (Or.inl rfl)) (pgs_cons (pg_name (i := 7) sc_timer_step.nd rfl (Or.inl rfl)) (pgs_nil))))))
            (pss_cons (ps_set (i := 8) sc_timer_step.nd rfl (Or.inl rfl) (pe_callB (call_min2 rfl) rfl (b_min T) bt_min (pa_cons (pv 1) (pa_cons (pe_op op_add (pv 5) (pv 4)) (pa_nil)))))
            (pss_cons (ps_if (pt_cmpR op_eq (pv 0) (pe_str) (nomark _)) (pss_cons (ps_if (pt_cmpR op_eq (pv 3) (pe_int) (nomark _)) (pss_one (ps_ret (pe_tup (pa_cons (pe_int) (pa_cons (pe_int) (pa_cons (pv 7) (pa_nil))))))) (pss_nil))
            (pss_one (ps_ret (pe_tup (pa_cons (pv 8) (pa_cons (pe_callTy call_int1 rfl (b_int T) bt_int (pa_cons (pe_cmpR op_eq (pv 8) (pv 1) (nomark _)) (pa_nil))) (pa_cons (pv 7) (pa_nil)))))))) (pss_nil))
            (pss_cons (ps_if (pt_cmpR op_eq (pv 0) (pe_str) (nomark _)) (Evl.pss_cut (ps_if (pt_cmpR op_eq (pv 3) (pe_int) (nomark _)) (pss_one (ps_set (i := 5) sc_timer_step.nd rfl (Or.inl rfl) (pv 8))) (pss_nil))
            (pss_one (ps_ret (pe_tup (pa_cons (pv 5) (pa_cons (pe_callTy call_int1 rfl (b_int T) bt_int (pa_cons (pe_cmpR op_eq (pv 5) (pv 1) (nomark _)) (pa_nil))) (pa_cons (pv 7) (pa_nil)))))))) (pss_nil))
            (pss_cons (ps_if (pt_cmpR op_eq (pv 0) (pe_str) (nomark _)) (pss_cons (ps_if (pt_cmpR op_eq (pv 3) (pe_int) (nomark _)) (pss_one (ps_ret (pe_tup (pa_cons (pe_int) (pa_cons (pe_int) (pa_cons (pv 7) (pa_nil))))))) (pss_nil))
            (pss_cons (ps_if (pt_cmpR op_eq (pv 6) (pe_int) (nomark _)) (pss_one (ps_ret (pe_tup (pa_cons (pv 8) (pa_cons (pe_callTy call_int1 rfl (b_int T) bt_int (pa_cons (pe_cmpR op_lt (pv 8) (pv 1) (nomark _)) (pa_nil))) (pa_cons (pv 7) (pa_nil))))))) (pss_nil))
            (pss_one (ps_ret (pe_tup (pa_cons (pv 5) (pa_cons (pv 6) (pa_cons (pv 7) (pa_nil))))))))) (pss_nil))
            (pss_cons (ps_if (pt_cmpR op_eq (pv 6) (pe_int) (nomark _)) (pss_one (ps_ret (pe_tup (pa_cons (pv 8) (pa_cons (pe_callTy call_int1 rfl (b_int T) bt_int (pa_cons (pe_cmpR op_lt (pv 8) (pv 1) (nomark _)) (pa_nil))) (pa_cons (pv 3) (pa_nil))))))) (pss_nil))
            (pss_cons (ps_if (PW.pt (pw_and (pt_cmpR op_eq (pv 3) (pe_int) (nomark _)) (pw_and1 (pt_cmpR op_eq (pv 7) (pe_int) (nomark _))))) (pss_one (ps_ret (pe_tup (pa_cons (pe_int) (pa_cons (pe_int) (pa_cons (pv 3) (pa_nil))))))) (pss_nil))
            (pss_one (ps_ret (pe_tup (pa_cons (pv 5) (pa_cons (pv 6) (pa_cons (pv 3) (pa_nil)))))))))))))

theorem ok_lw_bag (T : Tx K mg) : FnOk P w K mg base CX0 1 (He.fAd K d_lw_bag.at_) (fd_lw_bag T) ["script", "at"] (sp_lw_bag K) := by
  refine (F_lw_bag T).ok sc_lw_bag (fun vs H Q E h => Sp2.len h) (fun cdv A outer s H vs Q E hr h => ⟨t_lw_bag K, PSs.nox ?_, rd_lw_bag T.cf h⟩)
  exact pss_cons (ps_set (i := 2) sc_lw_bag.nd rfl (Or.inl rfl) (pe_int))
            (Evl.pss_cut (ps_if (pt_cmpR op_lt (pv 1) (pe_callB call_len rfl (b_len T) bt_len (pa_cons (pv 0) (pa_nil))) (nomark _)) (pss_one (ps_set (i := 2) sc_lw_bag.nd rfl (Or.inl rfl) (pe_ix ix_list (pv 0) (pv 1) (fun _ _ => rfl)))) (pss_nil))
            (Evl.pss_cut (ps_if (pt_cmpR op_lt (pv 2) (pe_int) (nomark _)) (pss_one (ps_set (i := 2) sc_lw_bag.nd rfl (Or.inl rfl) (pe_op op_sub (pe_int) (pe_op op_mul (pe_int) (pv 2))))) (pss_nil))
            (pss_cons (ps_if (pt_cmpR op_ge (pv 2) (pe_op op_pow (pe_int) (pe_int)) (nomark _)) (pss_one (ps_ret (pe_lst (pa_cons (pe_op op_sub (pv 2) (pe_op op_pow (pe_int) (pe_int))) (pa_cons (pv 1) (pa_cons (pe_int) (pa_nil))))))) (pss_nil))
            (pss_one (ps_ret (pe_lst (pa_cons (pv 2) (pa_cons (pv 1) (pa_cons (pe_int) (pa_nil))))))))))

theorem ok_lw_take (T : Tx K mg) : FnOk P w K mg base CX0 1 (He.fAd K d_lw_take.at_) (fd_lw_take T) ["bag", "many"] (sp_lw_take K) := by
  refine (F_lw_take T).ok sc_lw_take (fun vs H Q E h => Sp2.len h) (fun cdv A outer s H vs Q E hr h => ⟨t_lw_take K, PSs.nox ?_, rd_lw_take T.cf h⟩)
  exact pss_cons (ps_if (PW.pt (pw_and (pt_cmpR op_eq (pe_ix ix_list (pv 0) (pe_int) (fun _ _ => rfl)) (pe_int) (nomark _)) (pw_and1 (pt_cmpR op_gt (pe_ix ix_list (pv 0) (pe_int) (fun _ _ => rfl)) (pe_int) (nomark _))))) (pss_cons (ps_set (i := 2) sc_lw_take.nd rfl (Or.inl rfl) (pe_op op_modN (pe_callTy call_int1 rfl (b_int T) bt_int (pa_cons (pe_ix ix_list (pv 0) (pe_int) (fun _ _ => rfl)) (pa_nil))) (pv 1)))
            (pss_cons (ps_asg (pe_op op_fdivN (pe_ix ix_list (pv 0) (pe_int) (fun _ _ => rfl)) (pv 1)) (pg_sub (pv 0) (pe_int) set_list))
            (pss_one (ps_ret (pv 2))))) (pss_nil))
            (pss_cons (ps_asg (pe_op op_add (pe_ix ix_list (pv 0) (pe_int) (fun _ _ => rfl)) (pe_int)) (pg_sub (pv 0) (pe_int) set_list))
            (pss_cons (ps_set (i := 3) sc_lw_take.nd rfl (Or.inl rfl) (pe_op op_modN (pe_callTy call_int1 rfl (b_int T) bt_int (pa_cons (pe_op op_add (pe_op op_add (pe_op op_mul (pe_ix ix_list (pv 0) (pe_int) (fun _ _ => rfl)) (pe_int)) (pe_op op_mul (pe_ix ix_list (pv 0) (pe_int) (fun _ _ => rfl)) (pe_int))) (pe_int)) (pa_nil))) (pe_int)))
            (pss_cons (ps_set (i := 4) sc_lw_take.nd rfl (Or.inl rfl) (pe_op op_modN (pe_callTy call_int1 rfl (b_int T) bt_int (pa_cons (pe_op op_add (pe_op op_mul (pv 3) (pv 3)) (pe_op op_mul (pe_ix ix_list (pv 0) (pe_int) (fun _ _ => rfl)) (pe_int))) (pa_nil))) (pe_int)))
            (pss_cons (ps_set (i := 5) sc_lw_take.nd rfl (Or.inl rfl) (pe_op op_modN (pe_callTy call_int1 rfl (b_int T) bt_int (pa_cons (pe_op op_add (pe_op op_mul (pv 4) (pv 4)) (pv 3)) (pa_nil))) (pe_int)))
            (pss_one (ps_ret (pe_op op_modN (pe_callTy call_int1 rfl (b_int T) bt_int (pa_cons (pe_op op_fdivN (pv 5) (pe_int)) (pa_nil))) (pv 1))))))))

theorem ok_lw_pick (T : Tx K mg) : FnOk P w K mg base CX0 2 (He.fAd K d_lw_pick.at_) (fd_lw_pick T) ["bag", "menu"] (sp_lw_pick K) := by
  refine (F_lw_pick T).ok sc_lw_pick (fun vs H Q E h => Sp2.len h) (fun cdv A outer s H vs Q E hr h => ⟨t_lw_pick K, PSs.nox ?_, rd_lw_pick T.cf h⟩)
  exact pss_one (ps_ret (pe_ix ix_list (pv 1) (pe_call (ok_lw_take T) (hr.mono (by omega)) rfl (g_lw_take T) (F_lw_take T).kp (B_lw_take T) .nil pass0 (pa_cons (pv 0) (pa_cons (pe_callB call_len rfl (b_len T) bt_len (pa_cons (pv 1) (pa_nil))) (pa_nil)))) (fun _ _ => rfl)))

theorem ok_lw_same (T : Tx K mg) : ∀ n : Nat, FnOk P w K mg base CX0 (n + 1) (He.fAd K d_lw_same.at_) (fd_lw_same T) ["got", "due"] (sp_lw_same K n)
  | 0 => (F_lw_same T).ok (k := 0) sc_lw_same (fun _ _ _ _ h => h.elim) (fun _ _ _ _ _ _ _ _ _ h => h.elim)
  | n + 1 => by
    have ih := ok_lw_same T n
    have e : n + 1 + 1 = (n + 1) + 1 := by omega
    rw [e]
    refine (F_lw_same T).ok sc_lw_same (fun vs H Q E h => by obtain ⟨_, _, rfl, _⟩ := h; rfl) (fun cdv A outer s H vs Q E hr h => ⟨t_lw_same K n, PSs.nox ?_, rd_lw_same T.cf n h⟩)
    exact pss_cons (ps_if (PW.pt (pw_or (pt_val (pe_callB call_isi rfl (b_isinstance T) bt_isinstance (pa_cons (pv 1) (pa_cons (pe_bltn rfl (b_tuple T) bt_tuple rfl) (pa_nil))))) (pw_or1 (pt_val (pe_callB call_isi rfl (b_isinstance T) bt_isinstance (pa_cons (pv 1) (pa_cons (pe_bltn rfl (b_list T) bt_list rfl) (pa_nil)))))))) (pss_cons (ps_if (PW.pt (pw_or (pt_cmpR op_ne (pe_callB call_isi rfl (b_isinstance T) bt_isinstance (pa_cons (pv 1) (pa_cons (pe_bltn rfl (b_tuple T) bt_tuple rfl) (pa_nil)))) (pe_callB call_isi rfl (b_isinstance T) bt_isinstance (pa_cons (pv 0) (pa_cons (pe_bltn rfl (b_tuple T) bt_tuple rfl) (pa_nil)))) (nomark _)) (pw_or1 (pt_cmpR op_ne (pe_callB call_isi rfl (b_isinstance T) bt_isinstance (pa_cons (pv 1) (pa_cons (pe_bltn rfl (b_list T) bt_list rfl) (pa_nil)))) (pe_callB call_isi rfl (b_isinstance T) bt_isinstance (pa_cons (pv 0) (pa_cons (pe_bltn rfl (b_list T) bt_list rfl) (pa_nil)))) (nomark _))))) (pss_one (ps_ret (pe_bl))) (pss_nil))
            (pss_cons (ps_if (pt_cmpR op_ne (pe_callB call_len rfl (b_len T) bt_len (pa_cons (pv 0) (pa_nil))) (pe_callB call_len rfl (b_len T) bt_len (pa_cons (pv 1) (pa_nil))) (nomark _)) (pss_one (ps_ret (pe_bl))) (pss_nil))
            (pss_cons (ps_for PassesOwn.never rfl (pi_range1 rfl (b_range T) (pa_cons (pe_callB call_len rfl (b_len T) bt_len (pa_cons (pv 1) (pa_nil))) (pa_nil))) (pg_name (i := 2) sc_lw_same.nd rfl (Or.inl rfl)) (pss_one (ps_if (pt_not (pt_val (pe_call (ih) (hr.mono (by omega)) rfl (g_lw_same T) (F_lw_same T).kp (B_lw_same T) .nil pass0 (pa_cons (pe_ix ix_seq (pv 0) (pv 2) (fun _ _ => rfl)) (pa_cons (pe_ix ix_seq (pv 1) (pv 2) (fun _ _ => rfl)) (pa_nil)))))) (pss_one (ps_ret (pe_bl))) (pss_nil))))
            (pss_one (ps_ret (pe_bl)))))) (pss_nil))
            (pss_cons (ps_if (PW.pt (pw_or (pt_val (pe_callB call_isi rfl (b_isinstance T) bt_isinstance (pa_cons (pv 1) (pa_cons (pe_bltn rfl (b_bool T) bt_bool rfl) (pa_nil))))) (pw_or1 (pt_val (pe_callB call_isi rfl (b_isinstance T) bt_isinstance (pa_cons (pv 0) (pa_cons (pe_bltn rfl (b_bool T) bt_bool rfl) (pa_nil)))))))) (pss_one (ps_ret (pe_and (pe_callB call_isi rfl (b_isinstance T) bt_isinstance (pa_cons (pv 1) (pa_cons (pe_bltn rfl (b_bool T) bt_bool rfl) (pa_nil)))) (pe_and (pe_callB call_isi rfl (b_isinstance T) bt_isinstance (pa_cons (pv 0) (pa_cons (pe_bltn rfl (b_bool T) bt_bool rfl) (pa_nil)))) (pe_one (pe_cmpR op_eq (pv 0) (pv 1) (nomark _))))))) (pss_nil))
            (pss_cons (ps_if (pt_val (pe_callB call_isi rfl (b_isinstance T) bt_isinstance (pa_cons (pv 1) (pa_cons (pe_bltn rfl (b_int T) bt_int rfl) (pa_nil))))) (pss_one (ps_ret (pe_and (pe_callB call_isi rfl (b_isinstance T) bt_isinstance (pa_cons (pv 0) (pa_cons (pe_bltn rfl (b_int T) bt_int rfl) (pa_nil)))) (pe_one (pe_cmpR op_eq (pv 0) (pv 1) (nomark _)))))) (pss_nil))
            (pss_cons (ps_if (pt_val (pe_callB call_isi rfl (b_isinstance T) bt_isinstance (pa_cons (pv 1) (pa_cons (pe_bltn rfl (b_str T) bt_str rfl) (pa_nil))))) (pss_one (ps_ret (pe_and (pe_callB call_isi rfl (b_isinstance T) bt_isinstance (pa_cons (pv 0) (pa_cons (pe_bltn rfl (b_str T) bt_str rfl) (pa_nil)))) (pe_one (pe_cmpR op_eq (pv 0) (pv 1) (nomark _)))))) (pss_nil))
            (pss_one (ps_ret (pe_and (pe_cmpR op_isN (pv 0) (pe_non) (nomark _)) (pe_one (pe_cmpR op_isN (pv 1) (pe_non) (nomark _)))))))))

theorem ok_lw_size (T : Tx K mg) : FnOk P w K mg base CX0 3 (He.fAd K d_lw_size.at_) (fd_lw_size T) ["bag"] (sp_lw_size K) := by
  refine (F_lw_size T).ok sc_lw_size (fun vs H Q E h => Sp1.len h) (fun cdv A outer s H vs Q E hr h => ⟨t_lw_size K, PSs.nox ?_, rd_lw_size T.cf h⟩)
  exact pss_one (ps_ret (pe_call (ok_lw_pick T) (hr.mono (by omega)) rfl (g_lw_pick T) (F_lw_pick T).kp (B_lw_pick T) .nil pass0 (pa_cons (pv 0) (pa_cons (pe_lst (pa_cons (pe_int) (pa_cons (pe_int) (pa_cons (pe_int) (pa_cons (pe_int) (pa_cons (pe_int) (pa_cons (pe_op op_add (pe_int) (pe_call (ok_lw_take T) (hr.mono (by omega)) rfl (g_lw_take T) (F_lw_take T).kp (B_lw_take T) .nil pass0 (pa_cons (pv 0) (pa_cons (pe_int) (pa_nil))))) (pa_nil)))))))) (pa_nil)))))

theorem ok_lw_preset (T : Tx K mg) : FnOk P w K mg base CX0 4 (He.fAd K d_lw_preset.at_) (fd_lw_preset T) ["bag", "pace_n"] (sp_lw_preset K) := by
  refine (F_lw_preset T).ok sc_lw_preset (fun vs H Q E h => Sp2.len h) (fun cdv A outer s H vs Q E hr h => ⟨t_lw_preset K, PSs.nox ?_, rd_lw_preset T.cf h⟩)
  exact pss_cons (ps_set (i := 2) sc_lw_preset.nd rfl (Or.inl rfl) (pe_call (ok_lw_size T) (hr.mono (by omega)) rfl (g_lw_size T) (F_lw_size T).kp (B_lw_size T) .nil pass0 (pa_cons (pv 0) (pa_nil))))
            (Evl.pss_cut (ps_if (pt_cmpR op_eq (pe_call (ok_lw_take T) (hr.mono (by omega)) rfl (g_lw_take T) (F_lw_take T).kp (B_lw_take T) .nil pass0 (pa_cons (pv 0) (pa_cons (pe_int) (pa_nil)))) (pe_int) (nomark _)) (pss_one (ps_set (i := 2) sc_lw_preset.nd rfl (Or.inl rfl) (pe_op op_add (pe_op op_sub (pe_op op_mul (pv 1) (pe_op op_add (pe_int) (pe_call (ok_lw_take T) (hr.mono (by omega)) rfl (g_lw_take T) (F_lw_take T).kp (B_lw_take T) .nil pass0 (pa_cons (pv 0) (pa_cons (pe_int) (pa_nil)))))) (pe_int)) (pe_call (ok_lw_take T) (hr.mono (by omega)) rfl (g_lw_take T) (F_lw_take T).kp (B_lw_take T) .nil pass0 (pa_cons (pv 0) (pa_cons (pe_int) (pa_nil))))))) (pss_nil))
            (pss_one (ps_ret (pe_callB (call_max2 rfl) rfl (b_max T) bt_max (pa_cons (pe_int) (pa_cons (pe_callB (call_min2 rfl) rfl (b_min T) bt_min (pa_cons (pe_int) (pa_cons (pv 2) (pa_nil)))) (pa_nil)))))))

theorem ok_lw_start (T : Tx K mg) : FnOk P w K mg base CX0 3 (He.fAd K d_lw_start.at_) (fd_lw_start T) ["bag", "preset", "pace_n"] (sp_lw_start K) := by
  refine (F_lw_start T).ok sc_lw_start (fun vs H Q E h => Sp3.len h) (fun cdv A outer s H vs Q E hr h => ⟨t_lw_start K, PSs.nox ?_, rd_lw_start T.cf h⟩)
  exact pss_cons (ps_set (i := 3) sc_lw_start.nd rfl (Or.inl rfl) (pe_call (ok_lw_take T) (hr.mono (by omega)) rfl (g_lw_take T) (F_lw_take T).kp (B_lw_take T) .nil pass0 (pa_cons (pv 0) (pa_cons (pe_int) (pa_nil)))))
            (pss_cons (ps_if (pt_cmpR op_eq (pe_call (ok_lw_take T) (hr.mono (by omega)) rfl (g_lw_take T) (F_lw_take T).kp (B_lw_take T) .nil pass0 (pa_cons (pv 0) (pa_cons (pe_int) (pa_nil)))) (pe_int) (nomark _)) (pss_one (ps_ret (pe_tup (pa_cons (pe_int) (pa_cons (pe_int) (pa_cons (pv 3) (pa_nil))))))) (pss_nil))
            (pss_cons (ps_set (i := 4) sc_lw_start.nd rfl (Or.inl rfl) (pe_callB (call_max2 rfl) rfl (b_max T) bt_max (pa_cons (pe_int) (pa_cons (pe_callB (call_min2 rfl) rfl (b_min T) bt_min (pa_cons (pv 1) (pa_cons (pe_op op_add (pe_op op_sub (pe_op op_sub (pv 1) (pv 2)) (pe_int)) (pe_call (ok_lw_take T) (hr.mono (by omega)) rfl (g_lw_take T) (F_lw_take T).kp (B_lw_take T) .nil pass0 (pa_cons (pv 0) (pa_cons (pe_int) (pa_nil))))) (pa_nil)))) (pa_nil)))))
            (pss_cons (ps_set (i := 5) sc_lw_start.nd rfl (Or.inl rfl) (pe_call (ok_lw_pick T) (hr.mono (by omega)) rfl (g_lw_pick T) (F_lw_pick T).kp (B_lw_pick T) .nil pass0 (pa_cons (pv 0) (pa_cons (pe_lst (pa_cons (pe_int) (pa_cons (pv 1) (pa_cons (pe_op op_sub (pv 1) (pe_int)) (pa_cons (pv 4) (pa_cons (pe_call (ok_lw_take T) (hr.mono (by omega)) rfl (g_lw_take T) (F_lw_take T).kp (B_lw_take T) .nil pass0 (pa_cons (pv 0) (pa_cons (pe_op op_add (pv 1) (pe_int)) (pa_nil)))) (pa_nil))))))) (pa_nil)))))
            (pss_one (ps_ret (pe_tup (pa_cons (pv 5) (pa_cons (pe_call (ok_lw_take T) (hr.mono (by omega)) rfl (g_lw_take T) (F_lw_take T).kp (B_lw_take T) .nil pass0 (pa_cons (pv 0) (pa_cons (pe_int) (pa_nil)))) (pa_cons (pv 3) (pa_nil))))))))))

theorem ok_lw_row (T : Tx K mg) : FnOk P w K mg base CX0 3 (He.fAd K d_lw_row.at_) (fd_lw_row T) ["bag"] (sp_lw_row K) := by
  refine (F_lw_row T).ok sc_lw_row (fun vs H Q E h => Sp1.len h) (fun cdv A outer s H vs Q E hr h => ⟨t_lw_row K, PSs.nox ?_, rd_lw_row T.cf h⟩)
  exact pss_cons (ps_set (i := 1) sc_lw_row.nd rfl (Or.inl rfl) (pe_op op_add (pe_int) (pe_call (ok_lw_take T) (hr.mono (by omega)) rfl (g_lw_take T) (F_lw_take T).kp (B_lw_take T) .nil pass0 (pa_cons (pv 0) (pa_cons (pe_int) (pa_nil))))))
            (pss_cons (ps_set (i := 2) sc_lw_row.nd rfl (Or.inl rfl) (pe_call (ok_lw_pick T) (hr.mono (by omega)) rfl (g_lw_pick T) (F_lw_pick T).kp (B_lw_pick T) .nil pass0 (pa_cons (pv 0) (pa_cons (pe_lst (pa_cons (pe_int) (pa_cons (pe_int) (pa_cons (pe_int) (pa_cons (pe_int) (pa_nil)))))) (pa_nil)))))
            (pss_cons (ps_set (i := 3) sc_lw_row.nd rfl (Or.inl rfl) (pe_call (ok_lw_take T) (hr.mono (by omega)) rfl (g_lw_take T) (F_lw_take T).kp (B_lw_take T) .nil pass0 (pa_cons (pv 0) (pa_cons (pe_int) (pa_nil)))))
            (pss_cons (ps_set (i := 4) sc_lw_row.nd rfl (Or.inl rfl) (pe_lst (pa_cons (pv 3) (pa_nil))))
            (pss_cons (ps_for PassesOwn.never rfl (pi_range1 rfl (b_range T) (pa_cons (pe_op op_sub (pv 1) (pe_int)) (pa_nil))) (pg_name (i := 5) sc_lw_row.nd rfl (Or.inl rfl)) (Evl.pss_cut (ps_if (pt_cmpR op_eq (pe_call (ok_lw_take T) (hr.mono (by omega)) rfl (g_lw_take T) (F_lw_take T).kp (B_lw_take T) .nil pass0 (pa_cons (pv 0) (pa_cons (pv 2) (pa_nil)))) (pe_int) (nomark _)) (pss_one (ps_set (i := 3) sc_lw_row.nd rfl (Or.inl rfl) (pe_op op_sub (pe_int) (pv 3)))) (pss_nil))
            (pss_one (ps_expr (pe_bm PySem.F.plainAttrs_list PySem.F.slot_list_append PySem.F.type_list_append mt_append (pv 4) (pa_cons (pv 3) (pa_nil)))))))
            (pss_one (ps_ret (pv 4)))))))

theorem ok_lw_last (T : Tx K mg) : FnOk P w K mg base CX0 1 (He.fAd K d_lw_last.at_) (fd_lw_last T) ["row", "p"] (sp_lw_last K) := by
  refine (F_lw_last T).ok sc_lw_last (fun vs H Q E h => Sp2.len h) (fun cdv A outer s H vs Q E hr h => ⟨t_lw_last K, PSs.nox ?_, rd_lw_last T.cf h⟩)
  exact pss_cons (ps_setLc (i := 2) (own := [(("k" : Str), 3)]) (by rfl) sc_lw_last.nd rfl rfl (sw_true rfl rfl rfl (by decide +kernel)) (pi_range1 rfl (b_range T) (pa_cons (pe_callB call_len rfl (b_len T) bt_len (pa_cons (pv 0) (pa_nil))) (pa_nil))) (blkOk_by (own := [(("k" : Str), 3)]) (N := [("row" : Str), ("p" : Str), ("runs" : Str), ("k" : Str)]) (sc := defScope s_lw_last) (by decide +kernel)) (fun _ _ _ _ _ => pg_name (i := 3) sc_lw_last.nd rfl (Or.inl rfl)) (fun _ _ _ _ _ => pts_one (pt_cmpR op_eq (pe_ix ix_list (pv 0) (pv 3) (fun _ _ => rfl)) (pv 1) (nomark _))) (fun _ _ _ _ _ => pv 3))
            (pss_cons (ps_if (pt_cmpR (op_eqD hr.units) (pv 2) (pe_lst (pa_nil)) (nomark _)) (pss_one (ps_ret (pe_un un_neg (pe_int)))) (pss_nil))
            (pss_one (ps_ret (pe_ix ix_list (pv 2) (pe_un un_neg (pe_int)) (fun _ _ => rfl)))))

theorem ok_lw_taken (T : Tx K mg) : FnOk P w K mg base CX0 1 (He.fAd K d_lw_taken.at_) (fd_lw_taken T) ["preset", "pace_n", "start", "row"] (sp_lw_taken K) := by
  refine (F_lw_taken T).ok sc_lw_taken (fun vs H Q E h => Sp4.len h) (fun cdv A outer s H vs Q E hr h => ⟨t_lw_taken K, PSs.nox ?_, rd_lw_taken T.cf h⟩)
  exact pss_cons (ps_set (i := 4) sc_lw_taken.nd rfl (Or.inl rfl) (pe_un un_neg (pe_int)))
            (pss_cons (ps_set (i := 5) sc_lw_taken.nd rfl (Or.inl rfl) (pe_ix ix_tup (pv 2) (pe_int) (fun _ _ => rfl)))
            (pss_cons (ps_for PassesOwn.never rfl (pi_range1 rfl (b_range T) (pa_cons (pe_callB call_len rfl (b_len T) bt_len (pa_cons (pv 3) (pa_nil))) (pa_nil))) (pg_name (i := 6) sc_lw_taken.nd rfl (Or.inl rfl)) (Evl.pss_cut (ps_if (pt_cmpR op_ge (pv 4) (pe_int) (nomark _)) (pss_one (ps_set (i := 7) sc_lw_taken.nd rfl (Or.inl rfl) (pe_cmpR op_lt (pe_op op_mul (pv 1) (pe_op op_sub (pe_op op_sub (pv 6) (pe_int)) (pv 4))) (pv 0) (nomark _)))) (pss_one (ps_set (i := 7) sc_lw_taken.nd rfl (Or.inl rfl) (pe_and (pe_cmpR op_eq (pe_ix ix_tup (pv 2) (pe_int) (fun _ _ => rfl)) (pe_int) (nomark _)) (pe_one (pe_or (pe_cmpR op_eq (pv 6) (pe_int) (nomark _)) (pe_one (pe_cmpR op_lt (pe_op op_add (pe_ix ix_tup (pv 2) (pe_int) (fun _ _ => rfl)) (pe_op op_mul (pv 1) (pv 6))) (pv 0) (nomark _)))))))))
            (Evl.pss_cut (ps_if (PW.pt (pw_and (pt_cmpR op_eq (pe_ix ix_list (pv 3) (pv 6) (fun _ _ => rfl)) (pe_int) (nomark _)) (pw_and (pt_cmpR op_eq (pv 5) (pe_int) (nomark _)) (pw_and1 (pt_not (pt_val (pv 7))))))) (pss_one (ps_set (i := 4) sc_lw_taken.nd rfl (Or.inl rfl) (pv 6))) (pss_nil))
            (pss_one (ps_set (i := 5) sc_lw_taken.nd rfl (Or.inl rfl) (pe_ix ix_list (pv 3) (pv 6) (fun _ _ => rfl)))))))
            (pss_one (ps_ret (pv 4)))))

theorem ok_lw_stand (T : Tx K mg) : FnOk P w K mg base CX0 2 (He.fAd K d_lw_stand.at_) (fd_lw_stand T) ["mode", "preset", "pace_n", "start", "row"] (sp_lw_stand K) := by
  refine (F_lw_stand T).ok sc_lw_stand (fun vs H Q E h => Sp5.len h) (fun cdv A outer s H vs Q E hr h => ⟨t_lw_stand K, PSs.nox ?_, rd_lw_stand T.cf h⟩)
  exact pss_cons (ps_set (i := 5) sc_lw_stand.nd rfl (Or.inl rfl) (pe_callB call_len rfl (b_len T) bt_len (pa_cons (pv 4) (pa_nil))))
            (pss_cons (ps_set (i := 6) sc_lw_stand.nd rfl (Or.inl rfl) (pe_op op_add (pe_ix ix_tup (pv 3) (pe_int) (fun _ _ => rfl)) (pe_op op_mul (pv 2) (pv 5))))
            (pss_cons (ps_if (pt_cmpR op_eq (pv 0) (pe_str) (nomark _)) (pss_cons (ps_set (i := 6) sc_lw_stand.nd rfl (Or.inl rfl) (pe_op op_add (pe_ix ix_tup (pv 3) (pe_int) (fun _ _ => rfl)) (pe_op op_mul (pv 2) (pe_callB (cr_sum rfl) rfl (b_sum T) bt_sum (pa_cons (pv 4) (pa_nil))))))
            (pss_one (ps_ret (pe_tup (pa_cons (pe_callB (call_min2 rfl) rfl (b_min T) bt_min (pa_cons (pv 1) (pa_cons (pv 6) (pa_nil)))) (pa_cons (pe_callTy call_int1 rfl (b_int T) bt_int (pa_cons (pe_cmpR op_ge (pv 6) (pv 1) (nomark _)) (pa_nil))) (pa_cons (pe_ix ix_tup (pv 3) (pe_int) (fun _ _ => rfl)) (pa_nil)))))))) (pss_nil))
            (pss_cons (ps_if (pt_cmpR op_eq (pv 0) (pe_str) (nomark _)) (pss_cons (ps_set (i := 7) sc_lw_stand.nd rfl (Or.inl rfl) (pe_call (ok_lw_last T) (hr.mono (by omega)) rfl (g_lw_last T) (F_lw_last T).kp (B_lw_last T) .nil pass0 (pa_cons (pv 4) (pa_cons (pe_int) (pa_nil)))))
            (Evl.pss_cut (ps_if (pt_cmpR op_ge (pv 7) (pe_int) (nomark _)) (pss_one (ps_set (i := 6) sc_lw_stand.nd rfl (Or.inl rfl) (pe_op op_mul (pv 2) (pe_op op_sub (pe_op op_sub (pv 5) (pe_int)) (pv 7))))) (pss_nil))
            (pss_one (ps_ret (pe_tup (pa_cons (pe_callB (call_min2 rfl) rfl (b_min T) bt_min (pa_cons (pv 1) (pa_cons (pv 6) (pa_nil)))) (pa_cons (pe_callTy call_int1 rfl (b_int T) bt_int (pa_cons (pe_cmpR op_ge (pv 6) (pv 1) (nomark _)) (pa_nil))) (pa_cons (pe_ix ix_tup (pv 3) (pe_int) (fun _ _ => rfl)) (pa_nil))))))))) (pss_nil))
            (pss_cons (ps_set (i := 8) sc_lw_stand.nd rfl (Or.inl rfl) (pe_ix ix_tup (pv 3) (pe_int) (fun _ _ => rfl)))
            (pss_cons (ps_set (i := 7) sc_lw_stand.nd rfl (Or.inl rfl) (pe_call (ok_lw_last T) (hr.mono (by omega)) rfl (g_lw_last T) (F_lw_last T).kp (B_lw_last T) .nil pass0 (pa_cons (pv 4) (pa_cons (pe_int) (pa_nil)))))
            (Evl.pss_cut (ps_if (pt_cmpR op_eq (pv 0) (pe_str) (nomark _)) (pss_cons (ps_set (i := 8) sc_lw_stand.nd rfl (Or.inl rfl) (pe_ix ix_list (pv 4) (pe_un un_neg (pe_int)) (fun _ _ => rfl)))
            (pss_one (ps_set (i := 7) sc_lw_stand.nd rfl (Or.inl rfl) (pe_call (ok_lw_taken T) (hr.mono (by omega)) rfl (g_lw_taken T) (F_lw_taken T).kp (B_lw_taken T) .nil pass0 (pa_cons (pv 1) (pa_cons (pv 2) (pa_cons (pv 3) (pa_cons (pv 4) (pa_nil))))))))) (pss_nil))
            (pss_cons (ps_if (PW.pt (pw_and (pt_cmpR op_lt (pv 7) (pe_int) (nomark _)) (pw_and1 (pt_cmpR op_eq (pe_ix ix_tup (pv 3) (pe_int) (fun _ _ => rfl)) (pe_int) (nomark _))))) (pss_one (ps_ret (pe_tup (pa_cons (pe_ix ix_tup (pv 3) (pe_int) (fun _ _ => rfl)) (pa_cons (pe_int) (pa_cons (pv 8) (pa_nil))))))) (pss_nil))
            (Evl.pss_cut (ps_if (pt_cmpR op_ge (pv 7) (pe_int) (nomark _)) (pss_one (ps_set (i := 6) sc_lw_stand.nd rfl (Or.inl rfl) (pe_op op_mul (pv 2) (pe_op op_sub (pe_op op_sub (pv 5) (pe_int)) (pv 7))))) (pss_nil))
            (pss_one (ps_ret (pe_tup (pa_cons (pe_callB (call_min2 rfl) rfl (b_min T) bt_min (pa_cons (pv 1) (pa_cons (pv 6) (pa_nil)))) (pa_cons (pe_callTy call_int1 rfl (b_int T) bt_int (pa_cons (pe_cmpR op_lt (pv 6) (pv 1) (nomark _)) (pa_nil))) (pa_cons (pv 8) (pa_nil)))))))))))))))

theorem ok_law (T : Tx K mg) : FnOk P w K mg base CX0 6 (He.fAd K d_law.at_) (fd_law T) ["script"] (sp_law K) := by
  refine (F_law T).ok sc_law (fun vs H Q E h => Sp1.len h) (fun cdv A outer s H vs Q E hr h => ⟨t_law K, PSs.nox ?_, rd_law T.cf h⟩)
  exact pss_cons (ps_set (i := 1) sc_law.nd rfl (Or.inl rfl) (pe_call (ok_lw_bag T) (hr.mono (by omega)) rfl (g_lw_bag T) (F_lw_bag T).kp (B_lw_bag T) .nil pass0 (pa_cons (pv 0) (pa_cons (pe_int) (pa_nil)))))
            (pss_cons (ps_set (i := 2) sc_law.nd rfl (Or.inl rfl) (pe_call (ok_lw_pick T) (hr.mono (by omega)) rfl (g_lw_pick T) (F_lw_pick T).kp (B_lw_pick T) .nil pass0 (pa_cons (pv 1) (pa_cons (pe_lst (pa_cons (pe_str) (pa_cons (pe_str) (pa_cons (pe_str) (pa_cons (pe_str) (pa_nil)))))) (pa_nil)))))
            (pss_cons (ps_set (i := 3) sc_law.nd rfl (Or.inl rfl) (pe_call (ok_lw_size T) (hr.mono (by omega)) rfl (g_lw_size T) (F_lw_size T).kp (B_lw_size T) .nil pass0 (pa_cons (pv 1) (pa_nil))))
            (pss_cons (ps_set (i := 4) sc_law.nd rfl (Or.inl rfl) (pe_call (ok_lw_preset T) (hr.mono (by omega)) rfl (g_lw_preset T) (F_lw_preset T).kp (B_lw_preset T) .nil pass0 (pa_cons (pv 1) (pa_cons (pv 3) (pa_nil)))))
            (pss_cons (ps_set (i := 5) sc_law.nd rfl (Or.inl rfl) (pe_call (ok_lw_start T) (hr.mono (by omega)) rfl (g_lw_start T) (F_lw_start T).kp (B_lw_start T) .nil pass0 (pa_cons (pv 1) (pa_cons (pv 4) (pa_cons (pv 3) (pa_nil))))))
            (pss_cons (ps_set (i := 6) sc_law.nd rfl (Or.inl rfl) (pe_call (ok_lw_row T) (hr.mono (by omega)) rfl (g_lw_row T) (F_lw_row T).kp (B_lw_row T) .nil pass0 (pa_cons (pe_call (ok_lw_bag T) (hr.mono (by omega)) rfl (g_lw_bag T) (F_lw_bag T).kp (B_lw_bag T) .nil pass0 (pa_cons (pv 0) (pa_cons (pe_int) (pa_nil)))) (pa_nil))))
            (pss_cons (ps_set (i := 7) sc_law.nd rfl (Or.inl rfl) (pv 5))
            (pss_cons (ps_for PassesOwn.never rfl (pi_range1 rfl (b_range T) (pa_cons (pe_callB call_len rfl (b_len T) bt_len (pa_cons (pv 6) (pa_nil))) (pa_nil))) (pg_name (i := 8) sc_law.nd rfl (Or.inl rfl)) (pss_cons (ps_set (i := 7) sc_law.nd rfl (Or.inl rfl) (pe_call (ok_timer_step T) (hr.mono (by omega)) rfl (g_timer_step T) (F_timer_step T).kp (B_timer_step T) .nil pass0 (pa_cons (pv 2) (pa_cons (pv 4) (pa_cons (pv 7) (pa_cons (pe_ix ix_list (pv 6) (pv 8) (fun _ _ => rfl)) (pa_cons (pv 3) (pa_nil))))))))
            (pss_one (ps_if (pt_not (pt_val (pe_call (ok_lw_same T 4) (hr.mono (by omega)) rfl (g_lw_same T) (F_lw_same T).kp (B_lw_same T) .nil pass0 (pa_cons (pv 7) (pa_cons (pe_call (ok_lw_stand T) (hr.mono (by omega)) rfl (g_lw_stand T) (F_lw_stand T).kp (B_lw_stand T) .nil pass0 (pa_cons (pv 2) (pa_cons (pv 4) (pa_cons (pv 3) (pa_cons (pv 5) (pa_cons (pe_slice sl_list (pv 6) (po_none) (po_some (pe_op op_add (pv 8) (pe_int)))) (pa_nil))))))) (pa_nil)))))) (pss_one (ps_ret (pe_bl))) (pss_nil)))))
            (pss_one (ps_ret (pe_bl))))))))))

def obR (s : PySem.W.SharedT) : He.AlD × Bool := obsRG 4 fa fn xb (HandSHeadRun.getT s)
abbrev hk : PySem.W.Hook := hookR 4 fa fn xb
theorem obR_eq (s : PySem.W.SharedT) : obR s = hk.obs s.abs := obsRG_eq (HandSHeadRun.getT_eq s)
abbrev RR : PySem.W.OpenRow := PySem.W.OpenLaw.row PySem.Challenge.rw_rungstead_k15_timer_rows

def nms : List Str := ["timer_step", "_law_bag", "_law_take", "_law_pick", "_law_same", "_law_size", "_law_preset", "_law_start", "_law_row", "_law_last", "_law_taken", "_law_stand"]
theorem run (w : World) : HandSHeadRun.RunEq RR (PySem.W.view RR.prog [14]) hk obR 1200 nms w := by
  intro os
  kernel_rfl
theorem facts {P : Program} {w : World} {K : PySem.W.Frag} {h : Heap} {mg : Str → Option Value} {f : Addr} (X : K.In h) (G : h.Ns mainGlobals mg) (hfa : mg ("law" : Str) = some (.ref f)) (c : He.SaysD fa fn K) (hx : xb K = true) :
    ∃ fd : FuncData, (∀ (s : Shared) (v : Value), BindsTo s fd ⟨[v], []⟩ [("script", v)]) ∧ ∀ base : Heap, K.In base → base.Ns mainGlobals mg → FnOk P w K mg base CX0 6 f fd ["script"] (sp_law K) := by
  have T : Tx K mg := ⟨⟨h, X, G⟩, c, hx⟩
  have e := hfa.symm.trans (g_law T)
  cases e
  have b := FunD.bindsA (ps := ["script"]) (F_law T) fun _ _ _ _ _ _ us hl => match us, hl with | [_], _ => rfl
  exact ⟨fd_law T, fun s v => b s [v] rfl, fun base _ _ => ok_law T⟩
end R
open PySem PySem.W PySem.Calls PyProof.Rows
set_option maxHeartbeats 0
theorem PySem.Challenge.cw_rungstead_k15_timer_rows_holds : PySem.Challenge.rw_rungstead_k15_timer_rows.Holds := by
  w_on; o_law
  refine HandSHeadRun.head_any (r := OpenLaw.row PySem.Challenge.rw_rungstead_k15_timer_rows) (q := view (OpenLaw.row PySem.Challenge.rw_rungstead_k15_timer_rows).prog [14]) (H := R.hk) (ob := R.obR) (M := 1200) (loose := R.nms) (d := HandSHeadRun.topDef (OpenLaw.row PySem.Challenge.rw_rungstead_k15_timer_rows).prog 14) (kwd := []) R.obR_eq
    (by kernel_rfl) (fun s => by kernel_rfl) R.run (by kernel_rfl) (by kernel_rfl) (by kernel_rfl) (by rfl) (by first | assumption | decide +kernel) (by decide +kernel) ⟨rfl, rfl, rfl, rfl, rfl, by decide +kernel⟩ ?hw ?hc
  case hw => w_witness2
  case hc =>
    refine L2.walk_ofE (l := PySem.Challenge.rw_rungstead_k15_timer_rows) (n := 63) (k := 6) (x := "script") (CX := L2.CX0) rfl (by decide) (by kernel_rfl) ⟨rfl, by decide, by decide⟩ ?F (fun _ _ _ _ z => z)
    intro w mg fa h Y G hmg0
    obtain ⟨K, KX, c, hx⟩ := Y
    have hmg : mg ("law" : PySem.Str) = some (.ref fa) := by
      have e : (HandSHeadRun.topDef (OpenLaw.row PySem.Challenge.rw_rungstead_k15_timer_rows).prog 14).name = ("law" : PySem.Str) := by kernel_rfl
      rw [← e]
      exact hmg0
    obtain ⟨fd, hb, hF⟩ := R.facts (P := (PySem.Challenge.rw_rungstead_k15_timer_rows).prog) (w := w) KX G hmg c hx
    exact ⟨K, fd, R.sp_law K, KX, hb, fun H a ns hl hO hS => ⟨.ref a, rfl, a, ns, rfl, (by first | exact hS | exact R.sqf_of hO hS), hl, fun _ => rfl⟩, hF⟩
#print axioms PySem.Challenge.cw_rungstead_k15_timer_rows_holds
