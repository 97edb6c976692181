import PyProof.Rows.All
import Wide.All
import OpenK.AllK
import Wide.FinOn
import Lean
import HandS.ForMost
import HandS.ForExc
import HandS.More
import HandS.Flow
import HandS.Defaults
import HandS.IsInst
import HandS.SortInts
import HandS.Evl
import HandS.Head0
import HandS.Head1
import HandS.Head2
import HandS.HeadEnd
import HandS.HeadHook1
import HandS.HeadHook2
import PySem.Challenge.RW_rungstead_k00_clamp_and_saturate
set_option Elab.async false
set_option linter.all false
set_option maxRecDepth 100000
set_option maxHeartbeats 4000000
set_option Elab.async false
set_option linter.all false
set_option maxRecDepth 100000
set_option maxHeartbeats 4000000
namespace R
open PySem PySem.Spec PyProof.Rows L2
/-! ### names of the readings' operators -/
abbrev rAddI : R2 := rI0 fun i j => .int (i + j)
abbrev rSubI : R2 := rI0 fun i j => .int (i - j)
abbrev rMulI : R2 := rI CMul fun i j => .int (i * j)
abbrev rModN : R2 := rI (fun _ j => j ≠ 0) fun i j => .int (i.fmod j)
abbrev rDivN : R2 := rI CDivN fun i j => .int (i.fdiv j)
abbrev rPowI : R2 := rI CPow fun i j => .int (i ^ j.toNat)
abbrev rNegI : V → Hp → VK → Prop := rU fun i => .int (-i)
abbrev rLt : R2 := rI0 fun i j => .bl (decide (i < j))
abbrev rLe : R2 := rI0 fun i j => .bl (decide (i ≤ j))
abbrev rGt : R2 := rI0 fun i j => .bl (decide (j < i))
abbrev rGe : R2 := rI0 fun i j => .bl (decide (j ≤ i))
def rIsN : R2 := fun x y H Q => y = .non ∧ Q (.bl (decide (x = .non))) H
def rNotN : R2 := fun x y H Q => y = .non ∧ Q (.bl (!decide (x = .non))) H
def rAddS : R2 := fun x y H Q => ∃ i j, x = .str i ∧ y = .str j ∧ i.length + j.length ≤ sizeLine ∧ Q (.str (i ++ j)) H
def rInSg : R2 := fun x y H Q => ∃ (c : Nat) (z : Str), x = .str ⟨#[c]⟩ ∧ y = .str z ∧ Q (.bl (decide (c ∈ z.cps.toList))) H
def rNotInSg : R2 := fun x y H Q => ∃ (c : Nat) (z : Str), x = .str ⟨#[c]⟩ ∧ y = .str z ∧ Q (.bl (!decide (c ∈ z.cps.toList))) H
def rInt1 : List V → Hp → VK → Prop := fun xs H Q => (∃ i, xs = [.int i] ∧ Q (.int i) H) ∨ ∃ k, xs = [.bl k] ∧ Q (.int (if k then 1 else 0)) H
def rBool1 : List V → Hp → VK → Prop := fun xs H Q => (∃ i, xs = [.int i] ∧ Q (.bl (i != 0)) H) ∨ ∃ k, xs = [.bl k] ∧ Q (.bl k) H
def rStr1 : List V → Hp → VK → Prop := fun xs H Q => ∃ i, xs = [.int i] ∧ i.natAbs.log2 < 1920 ∧ Q (.str (toString i)) H
def rAbs1 : List V → Hp → VK → Prop := fun xs H Q => ∃ i, xs = [.int i] ∧ Q (.int (if i < 0 then -i else i)) H
def rMax2 : List V → Hp → VK → Prop := fun xs H Q => ∃ i j, xs = [.int i, .int j] ∧ Q (.int (if j > i then j else i)) H
def rMin2 : List V → Hp → VK → Prop := fun xs H Q => ∃ i j, xs = [.int i, .int j] ∧ Q (.int (if j < i then j else i)) H
def tTru (K : PySem.W.Frag) (ta : TE) : TT := fun σ H Q => ta σ H fun x H' => ∃ k, TruV K x H' k ∧ Q k H'
theorem bt_len : bootBuiltins "len" = some (.builtin "len") := PySem.boot_len
theorem bt_int : bootBuiltins "int" = some (.type "int") := by decide +kernel
theorem bt_str : bootBuiltins "str" = some (.type "str") := by decide +kernel
theorem bt_bool : bootBuiltins "bool" = some (.type "bool") := by decide +kernel
theorem bt_list : bootBuiltins "list" = some (.type "list") := by decide +kernel
theorem bt_tuple : bootBuiltins "tuple" = some (.type "tuple") := by decide +kernel
theorem bt_dict : bootBuiltins "dict" = some (.type "dict") := by decide +kernel
theorem bt_abs : bootBuiltins "abs" = some (.builtin "abs") := by decide +kernel
theorem bt_min : bootBuiltins "min" = some (.builtin "min") := by decide +kernel
theorem bt_max : bootBuiltins "max" = some (.builtin "max") := by decide +kernel
theorem bt_sum : bootBuiltins "sum" = some (.builtin "sum") := by decide +kernel
theorem bt_all : bootBuiltins "all" = some (.builtin "all") := by decide +kernel
theorem bt_any : bootBuiltins "any" = some (.builtin "any") := by decide +kernel
theorem bt_isinstance : bootBuiltins "isinstance" = some (.builtin "isinstance") := by decide +kernel
theorem bt_sorted : bootBuiltins "sorted" = some (.builtin "sorted") := by decide +kernel
theorem bt_ord : bootBuiltins "ord" = some (.builtin "ord") := by decide +kernel
theorem bt_chr : bootBuiltins "chr" = some (.builtin "chr") := by decide +kernel
section
variable {X : Cx} {x : Str} {i : Int} {z : Str} {pos : Pos}
theorem pe_globI (hg : Gl X x) (h : ∃ t, X.mg x = some (.int i t)) (hd : (x == ("__debug__" : Str)) = false := by decide) : PE X (.Name x pos) (tC (.int i)) :=
  h.elim fun t e => pe_glob hg e ⟨t, rfl⟩ hd
theorem pe_globS (hg : Gl X x) (h : ∃ t, X.mg x = some (.str z t)) (hd : (x == ("__debug__" : Str)) = false := by decide) : PE X (.Name x pos) (tC (.str z)) :=
  h.elim fun t e => pe_glob hg e ⟨t, rfl⟩ hd
end
/-! ### promises by the number of arguments -/
def Sp0 (f : Hp → VK → XK → Prop) : Sp := fun vs H Q E => vs = [] ∧ f H Q E
def Sp1 (f : V → Hp → VK → XK → Prop) : Sp := fun vs H Q E => ∃ a, vs = [a] ∧ f a H Q E
def Sp2 (f : V → V → Hp → VK → XK → Prop) : Sp := fun vs H Q E => ∃ a b, vs = [a, b] ∧ f a b H Q E
def Sp3 (f : V → V → V → Hp → VK → XK → Prop) : Sp := fun vs H Q E => ∃ a b c, vs = [a, b, c] ∧ f a b c H Q E
def Sp4 (f : V → V → V → V → Hp → VK → XK → Prop) : Sp := fun vs H Q E => ∃ a b c d, vs = [a, b, c, d] ∧ f a b c d H Q E
def Sp5 (f : V → V → V → V → V → Hp → VK → XK → Prop) : Sp := fun vs H Q E => ∃ a b c d e, vs = [a, b, c, d, e] ∧ f a b c d e H Q E
def Sp6 (f : V → V → V → V → V → V → Hp → VK → XK → Prop) : Sp := fun vs H Q E => ∃ a b c d e g, vs = [a, b, c, d, e, g] ∧ f a b c d e g H Q E
section
variable {vs : List V} {H : Hp} {Q : VK} {E : XK}
theorem Sp0.len {f} (h : Sp0 f vs H Q E) : vs.length = 0 := by obtain ⟨rfl, _⟩ := h; rfl
theorem Sp1.len {f} (h : Sp1 f vs H Q E) : vs.length = 1 := by obtain ⟨_, rfl, _⟩ := h; rfl
theorem Sp2.len {f} (h : Sp2 f vs H Q E) : vs.length = 2 := by obtain ⟨_, _, rfl, _⟩ := h; rfl
theorem Sp3.len {f} (h : Sp3 f vs H Q E) : vs.length = 3 := by obtain ⟨_, _, _, rfl, _⟩ := h; rfl
theorem Sp4.len {f} (h : Sp4 f vs H Q E) : vs.length = 4 := by obtain ⟨_, _, _, _, rfl, _⟩ := h; rfl
theorem Sp5.len {f} (h : Sp5 f vs H Q E) : vs.length = 5 := by obtain ⟨_, _, _, _, _, rfl, _⟩ := h; rfl
theorem Sp6.len {f} (h : Sp6 f vs H Q E) : vs.length = 6 := by obtain ⟨_, _, _, _, _, _, rfl, _⟩ := h; rfl
theorem c_sp0 {f : Hp → VK → XK → Prop} (h : f H Q E) : Sp0 f ([] ++ []) H Q E := ⟨rfl, h⟩
theorem c_sp1 {f : V → Hp → VK → XK → Prop} {a} (h : f a H Q E) : Sp1 f ([a] ++ []) H Q E := ⟨a, rfl, h⟩
theorem c_sp2 {f : V → V → Hp → VK → XK → Prop} {a b} (h : f a b H Q E) : Sp2 f ([a, b] ++ []) H Q E := ⟨a, b, rfl, h⟩
theorem c_sp3 {f : V → V → V → Hp → VK → XK → Prop} {a b c} (h : f a b c H Q E) : Sp3 f ([a, b, c] ++ []) H Q E := ⟨a, b, c, rfl, h⟩
theorem c_sp4 {f : V → V → V → V → Hp → VK → XK → Prop} {a b c d} (h : f a b c d H Q E) : Sp4 f ([a, b, c, d] ++ []) H Q E := ⟨a, b, c, d, rfl, h⟩
theorem c_sp5 {f : V → V → V → V → V → Hp → VK → XK → Prop} {a b c d e} (h : f a b c d e H Q E) : Sp5 f ([a, b, c, d, e] ++ []) H Q E := ⟨a, b, c, d, e, rfl, h⟩
theorem c_sp6 {f : V → V → V → V → V → V → Hp → VK → XK → Prop} {a b c d e g} (h : f a b c d e g H Q E) : Sp6 f ([a, b, c, d, e, g] ++ []) H Q E := ⟨a, b, c, d, e, g, rfl, h⟩
end
/-! ### heaps: what stays -/
/-- all but l stays -/
def Mu (l : Addr) (H H' : Hp) : Prop := ∀ b o, b ≠ l → H b = some o → H' b = some o
section
variable {K : PySem.W.Frag} {H H1 H2 : Hp} {a b l p : Addr} {o u : HO} {xs : List V}
theorem Same.new (h : H p = none) : Same H (upd H p o) := fun a u e => by
  rw [upd_ne (ne_of_none e h)]
  exact e
theorem Mu.upd : Mu l H (upd H l o) := fun b u n e => by
  rw [upd_ne n]
  exact e
theorem Same.mu (h : Same H H1) : Mu l H H1 := fun b u _ e => h b u e
theorem Mu.trans (h : Mu l H H1) (h' : Mu l H1 H2) : Mu l H H2 := fun b u n e => h' b u n (h b u n e)
theorem Mu.transS (h : Mu l H H1) (h' : Same H1 H2) : Mu l H H2 := fun b u n e => h' b u (h b u n e)
/-- an object that H does not know may change -/
theorem Same.mut (e : Same H H1) (m : Mu l H1 H2) (h : H l = none) : Same H H2 := fun a u ha => m a u (ne_of_none ha h) (e a u ha)
theorem lk_s (e : Same H H1) (h : H a = some o) : H1 a = some o := e a o h
theorem lk_m (e : Mu l H H1) (n : a ≠ l) (h : H a = some o) : H1 a = some o := e a o n h
theorem Rd.same {u : HO} (e : Same H H1) (h : Rd H a u) : Rd H1 a u := by
  rcases h with h | ⟨o, h⟩
  · exact .inl (e _ _ h)
  · exact .inr ⟨o, e _ _ h⟩
theorem sql_s (e : Same H H1) (h : SqL K H a xs) : SqL K H1 a xs := e.seq h
theorem sqt_s (e : Same H H1) (h : SqT K H a xs) : SqT K H1 a xs := h.elim (fun h => .inl (Rd.same e h)) .inr
/-- a tuple is no list, dict or instance: it stays where l is one of these -/
theorem sqt_m (e : Mu l H H1) (m : Mut (H l)) (h : SqT K H a xs) : SqT K H1 a xs := by
  rcases h with (h | ⟨o, h⟩) | h
  · exact .inl (.inl (e _ _ (fun z => by subst z; rw [h] at m; exact m) h))
  · exact .inl (.inr ⟨o, e _ _ (fun z => by subst z; rw [h] at m; exact m) h⟩)
  · exact .inr h
theorem sql_m (e : Mu l H H1) (n : a ≠ l) (h : SqL K H a xs) : SqL K H1 a xs := by
  rcases h with (h | ⟨o, h⟩) | h
  · exact .inl (.inl (e _ _ n h))
  · exact .inl (.inr ⟨o, e _ _ n h⟩)
  · exact .inr h
end
/-! ### data -/
def tup1 (ds : List PyData) : PyData := .tuple ds
mutual
def imm : PyData → Bool
  | .list _ => false
  | .tuple ds => immAll ds
  | _ => true
def immAll : List PyData → Bool
  | [] => true
  | d :: ds => imm d && immAll ds
end
section
variable {K : PySem.W.Frag} {H H1 : Hp} {l : Addr}
mutual
theorem Dp.same (e : Same H H1) : ∀ {d : PyData} {v : V}, Dp K H v d → Dp K H1 v d
  | _, _, .non => .non
  | _, _, .bl b => .bl b
  | _, _, .int i => .int i
  | _, _, .str x => .str x
  | _, _, .lst h r => .lst (sql_s e h) (DpAll.same e r)
  | _, _, .tup h r => .tup (sqt_s e h) (DpAll.same e r)
theorem DpAll.same (e : Same H H1) : ∀ {ds : List PyData} {vs : List V}, DpAll K H vs ds → DpAll K H1 vs ds
  | _, _, .nil => .nil
  | _, _, .cons a b => .cons (Dp.same e a) (DpAll.same e b)
end
mutual
theorem Dp.mu (e : Mu l H H1) (m : Mut (H l)) : ∀ {d : PyData} {v : V}, imm d = true → Dp K H v d → Dp K H1 v d
  | _, _, _, .non => .non
  | _, _, _, .bl b => .bl b
  | _, _, _, .int i => .int i
  | _, _, _, .str x => .str x
  | _, _, i, .lst h r => by cases i
  | _, _, i, .tup h r => .tup (sqt_m e m h) (DpAll.mu e m (by simpa [imm] using i) r)
theorem DpAll.mu (e : Mu l H H1) (m : Mut (H l)) : ∀ {ds : List PyData} {vs : List V}, immAll ds = true → DpAll K H vs ds → DpAll K H1 vs ds
  | _, _, _, .nil => .nil
  | _, _, i, .cons a b => .cons (Dp.mu e m (Bool.and_eq_true_iff.mp (by simpa [immAll] using i)).1 a) (DpAll.mu e m (Bool.and_eq_true_iff.mp (by simpa [immAll] using i)).2 b)
end
theorem DpAll.len : ∀ {vs : List V} {ds : List PyData}, DpAll K H vs ds → vs.length = ds.length
  | _, _, .nil => rfl
  | _, _, .cons _ t => congrArg Nat.succ (DpAll.len t)
theorem DpAll.get : ∀ {vs : List V} {ds : List PyData} {i : Nat} {v : V}, DpAll K H vs ds → vs[i]? = some v → ∃ d, ds[i]? = some d ∧ Dp K H v d
  | _, _, _, _, .nil, e => by simp at e
  | _, _, 0, _, .cons r _, e => by simp at e; subst e; exact ⟨_, rfl, r⟩
  | _, _, i + 1, _, .cons _ t, e => by
    obtain ⟨d, h1, h2⟩ := DpAll.get (i := i) t (by simpa using e)
    exact ⟨d, by simpa using h1, h2⟩
theorem DpAll.getD : ∀ {vs : List V} {ds : List PyData} {i : Nat} {d : PyData}, DpAll K H vs ds → ds[i]? = some d → ∃ v, vs[i]? = some v ∧ Dp K H v d
  | _, _, _, _, .nil, e => by simp at e
  | _, _, 0, _, .cons r _, e => by simp at e; subst e; exact ⟨_, rfl, r⟩
  | _, _, i + 1, _, .cons _ t, e => by
    obtain ⟨v, h1, h2⟩ := DpAll.getD (i := i) t (by simpa using e)
    exact ⟨v, by simpa using h1, h2⟩
theorem DpAll.append : ∀ {vs ws : List V} {ds es : List PyData}, DpAll K H vs ds → DpAll K H ws es → DpAll K H (vs ++ ws) (ds ++ es)
  | _, _, _, _, .nil, s => s
  | _, _, _, _, .cons r t, s => .cons r (DpAll.append t s)
theorem DpAll.ints : ∀ (ns : List Int), DpAll K H (ns.map V.int) (ns.map PyData.int)
  | [] => .nil
  | n :: ns => .cons (.int n) (DpAll.ints ns)
theorem DpAll.int_inv : ∀ {ns : List Int} {vs : List V}, DpAll K H vs (ns.map PyData.int) → vs = ns.map V.int
  | [], _, .nil => rfl
  | _ :: ns, _, .cons (.int _) t => by rw [DpAll.int_inv t]; rfl
theorem DpAll.strs : ∀ (ns : List Str), DpAll K H (ns.map V.str) (ns.map PyData.str)
  | [] => .nil
  | n :: ns => .cons (.str n) (DpAll.strs ns)
end
/-- a new object o, handed on -/
def NewO (o : HO) (Q : VK) (H : Hp) : Prop := ∀ p, H p = none → Q (.ref p) (upd H p o)
/-! ### steps -/
section
variable {K : PySem.W.Frag} {σ : L2.St} {H : Hp} {Q : VK} {QT : Bool → Hp → Prop} {QA : List V → Hp → Prop} {v x y : V} {i j : Int} {n : Nat} {ta tb tc te : TE} {tt tu : TT} {tr : TA} {D : Ends} {t u w : TS} {P : Prop} [Decidable P]
theorem c_var (h : σ[n]? = some (some v)) (k : Q v H) : tVar n σ H Q := ⟨v, h, k⟩
theorem c_var0 {r : L2.St} (k : Q v H) : tVar 0 (some v :: r) H Q := ⟨v, rfl, k⟩
theorem c_var1 {a0 : Option V} {r : L2.St} (k : Q v H) : tVar 1 (a0 :: some v :: r) H Q := ⟨v, rfl, k⟩
theorem c_var2 {a0 a1 : Option V} {r : L2.St} (k : Q v H) : tVar 2 (a0 :: a1 :: some v :: r) H Q := ⟨v, rfl, k⟩
theorem c_var3 {a0 a1 a2 : Option V} {r : L2.St} (k : Q v H) : tVar 3 (a0 :: a1 :: a2 :: some v :: r) H Q := ⟨v, rfl, k⟩
theorem c_var4 {a0 a1 a2 a3 : Option V} {r : L2.St} (k : Q v H) : tVar 4 (a0 :: a1 :: a2 :: a3 :: some v :: r) H Q := ⟨v, rfl, k⟩
theorem c_var5 {a0 a1 a2 a3 a4 : Option V} {r : L2.St} (k : Q v H) : tVar 5 (a0 :: a1 :: a2 :: a3 :: a4 :: some v :: r) H Q := ⟨v, rfl, k⟩
theorem c_var6 {a0 a1 a2 a3 a4 a5 : Option V} {r : L2.St} (k : Q v H) : tVar 6 (a0 :: a1 :: a2 :: a3 :: a4 :: a5 :: some v :: r) H Q := ⟨v, rfl, k⟩
theorem c_var7 {a0 a1 a2 a3 a4 a5 a6 : Option V} {r : L2.St} (k : Q v H) : tVar 7 (a0 :: a1 :: a2 :: a3 :: a4 :: a5 :: a6 :: some v :: r) H Q := ⟨v, rfl, k⟩
theorem c_var8 {a0 a1 a2 a3 a4 a5 a6 a7 : Option V} {r : L2.St} (k : Q v H) : tVar 8 (a0 :: a1 :: a2 :: a3 :: a4 :: a5 :: a6 :: a7 :: some v :: r) H Q := ⟨v, rfl, k⟩
theorem c_var9 {a0 a1 a2 a3 a4 a5 a6 a7 a8 : Option V} {r : L2.St} (k : Q v H) : tVar 9 (a0 :: a1 :: a2 :: a3 :: a4 :: a5 :: a6 :: a7 :: a8 :: some v :: r) H Q := ⟨v, rfl, k⟩
theorem c_var10 {a0 a1 a2 a3 a4 a5 a6 a7 a8 a9 : Option V} {r : L2.St} (k : Q v H) : tVar 10 (a0 :: a1 :: a2 :: a3 :: a4 :: a5 :: a6 :: a7 :: a8 :: a9 :: some v :: r) H Q := ⟨v, rfl, k⟩
theorem c_var11 {a0 a1 a2 a3 a4 a5 a6 a7 a8 a9 a10 : Option V} {r : L2.St} (k : Q v H) : tVar 11 (a0 :: a1 :: a2 :: a3 :: a4 :: a5 :: a6 :: a7 :: a8 :: a9 :: a10 :: some v :: r) H Q := ⟨v, rfl, k⟩
theorem c_var12 {a0 a1 a2 a3 a4 a5 a6 a7 a8 a9 a10 a11 : Option V} {r : L2.St} (k : Q v H) : tVar 12 (a0 :: a1 :: a2 :: a3 :: a4 :: a5 :: a6 :: a7 :: a8 :: a9 :: a10 :: a11 :: some v :: r) H Q := ⟨v, rfl, k⟩
theorem c_var13 {a0 a1 a2 a3 a4 a5 a6 a7 a8 a9 a10 a11 a12 : Option V} {r : L2.St} (k : Q v H) : tVar 13 (a0 :: a1 :: a2 :: a3 :: a4 :: a5 :: a6 :: a7 :: a8 :: a9 :: a10 :: a11 :: a12 :: some v :: r) H Q := ⟨v, rfl, k⟩
theorem c_var14 {a0 a1 a2 a3 a4 a5 a6 a7 a8 a9 a10 a11 a12 a13 : Option V} {r : L2.St} (k : Q v H) : tVar 14 (a0 :: a1 :: a2 :: a3 :: a4 :: a5 :: a6 :: a7 :: a8 :: a9 :: a10 :: a11 :: a12 :: a13 :: some v :: r) H Q := ⟨v, rfl, k⟩
theorem c_var15 {a0 a1 a2 a3 a4 a5 a6 a7 a8 a9 a10 a11 a12 a13 a14 : Option V} {r : L2.St} (k : Q v H) : tVar 15 (a0 :: a1 :: a2 :: a3 :: a4 :: a5 :: a6 :: a7 :: a8 :: a9 :: a10 :: a11 :: a12 :: a13 :: a14 :: some v :: r) H Q := ⟨v, rfl, k⟩
theorem c_var16 {a0 a1 a2 a3 a4 a5 a6 a7 a8 a9 a10 a11 a12 a13 a14 a15 : Option V} {r : L2.St} (k : Q v H) : tVar 16 (a0 :: a1 :: a2 :: a3 :: a4 :: a5 :: a6 :: a7 :: a8 :: a9 :: a10 :: a11 :: a12 :: a13 :: a14 :: a15 :: some v :: r) H Q := ⟨v, rfl, k⟩
theorem c_var17 {a0 a1 a2 a3 a4 a5 a6 a7 a8 a9 a10 a11 a12 a13 a14 a15 a16 : Option V} {r : L2.St} (k : Q v H) : tVar 17 (a0 :: a1 :: a2 :: a3 :: a4 :: a5 :: a6 :: a7 :: a8 :: a9 :: a10 :: a11 :: a12 :: a13 :: a14 :: a15 :: a16 :: some v :: r) H Q := ⟨v, rfl, k⟩
theorem c_var18 {a0 a1 a2 a3 a4 a5 a6 a7 a8 a9 a10 a11 a12 a13 a14 a15 a16 a17 : Option V} {r : L2.St} (k : Q v H) : tVar 18 (a0 :: a1 :: a2 :: a3 :: a4 :: a5 :: a6 :: a7 :: a8 :: a9 :: a10 :: a11 :: a12 :: a13 :: a14 :: a15 :: a16 :: a17 :: some v :: r) H Q := ⟨v, rfl, k⟩
theorem c_var19 {a0 a1 a2 a3 a4 a5 a6 a7 a8 a9 a10 a11 a12 a13 a14 a15 a16 a17 a18 : Option V} {r : L2.St} (k : Q v H) : tVar 19 (a0 :: a1 :: a2 :: a3 :: a4 :: a5 :: a6 :: a7 :: a8 :: a9 :: a10 :: a11 :: a12 :: a13 :: a14 :: a15 :: a16 :: a17 :: a18 :: some v :: r) H Q := ⟨v, rfl, k⟩
theorem c_var20 {a0 a1 a2 a3 a4 a5 a6 a7 a8 a9 a10 a11 a12 a13 a14 a15 a16 a17 a18 a19 : Option V} {r : L2.St} (k : Q v H) : tVar 20 (a0 :: a1 :: a2 :: a3 :: a4 :: a5 :: a6 :: a7 :: a8 :: a9 :: a10 :: a11 :: a12 :: a13 :: a14 :: a15 :: a16 :: a17 :: a18 :: a19 :: some v :: r) H Q := ⟨v, rfl, k⟩
theorem c_var21 {a0 a1 a2 a3 a4 a5 a6 a7 a8 a9 a10 a11 a12 a13 a14 a15 a16 a17 a18 a19 a20 : Option V} {r : L2.St} (k : Q v H) : tVar 21 (a0 :: a1 :: a2 :: a3 :: a4 :: a5 :: a6 :: a7 :: a8 :: a9 :: a10 :: a11 :: a12 :: a13 :: a14 :: a15 :: a16 :: a17 :: a18 :: a19 :: a20 :: some v :: r) H Q := ⟨v, rfl, k⟩
theorem c_var22 {a0 a1 a2 a3 a4 a5 a6 a7 a8 a9 a10 a11 a12 a13 a14 a15 a16 a17 a18 a19 a20 a21 : Option V} {r : L2.St} (k : Q v H) : tVar 22 (a0 :: a1 :: a2 :: a3 :: a4 :: a5 :: a6 :: a7 :: a8 :: a9 :: a10 :: a11 :: a12 :: a13 :: a14 :: a15 :: a16 :: a17 :: a18 :: a19 :: a20 :: a21 :: some v :: r) H Q := ⟨v, rfl, k⟩
theorem c_var23 {a0 a1 a2 a3 a4 a5 a6 a7 a8 a9 a10 a11 a12 a13 a14 a15 a16 a17 a18 a19 a20 a21 a22 : Option V} {r : L2.St} (k : Q v H) : tVar 23 (a0 :: a1 :: a2 :: a3 :: a4 :: a5 :: a6 :: a7 :: a8 :: a9 :: a10 :: a11 :: a12 :: a13 :: a14 :: a15 :: a16 :: a17 :: a18 :: a19 :: a20 :: a21 :: a22 :: some v :: r) H Q := ⟨v, rfl, k⟩
theorem c_c (k : Q v H) : tC v σ H Q := k
theorem c_op {r : R2} (k : ta σ H fun x H1 => tb σ H1 fun y H2 => r x y H2 Q) : tOp r ta tb σ H Q := k
theorem c_un {r : V → Hp → VK → Prop} (k : ta σ H fun x H1 => r x H1 Q) : tUn r ta σ H Q := k
theorem c_I0 {g : Int → Int → V} (k : Q (g i j) H) : rI0 g (.int i) (.int j) H Q := ⟨i, j, rfl, rfl, k⟩
theorem c_I {C : Int → Int → Prop} {g : Int → Int → V} (c : C i j) (k : Q (g i j) H) : rI C g (.int i) (.int j) H Q := ⟨i, j, rfl, rfl, c, k⟩
theorem c_U {g : Int → V} (k : Q (g i) H) : rU g (.int i) H Q := ⟨i, rfl, k⟩
theorem c_eqI (k : Q (.bl (decide (i = j))) H) : rEq (.int i) (.int j) H Q := ⟨rfl, by simpa using k⟩
theorem c_neI (k : Q (.bl (!decide (i = j))) H) : rNe (.int i) (.int j) H Q := ⟨rfl, by simpa using k⟩
theorem c_eqS {a b : Str} (k : Q (.bl (decide (a = b))) H) : rEq (.str a) (.str b) H Q := ⟨rfl, by simpa using k⟩
theorem c_neS {a b : Str} (k : Q (.bl (!decide (a = b))) H) : rNe (.str a) (.str b) H Q := ⟨rfl, by simpa using k⟩
theorem c_eqB {a b : Bool} (k : Q (.bl (decide (a = b))) H) : rEq (.bl a) (.bl b) H Q := ⟨rfl, by simpa using k⟩
theorem c_neB {a b : Bool} (k : Q (.bl (!decide (a = b))) H) : rNe (.bl a) (.bl b) H Q := ⟨rfl, by simpa using k⟩
theorem c_eqIS {a : Str} (k : Q (.bl false) H) : rEq (.int i) (.str a) H Q := ⟨rfl, k⟩
theorem c_eqSI {a : Str} (k : Q (.bl false) H) : rEq (.str a) (.int i) H Q := ⟨rfl, k⟩
theorem c_isN (k : Q (.bl (decide (x = .non))) H) : rIsN x .non H Q := ⟨rfl, k⟩
theorem c_notN (k : Q (.bl (!decide (x = .non))) H) : rNotN x .non H Q := ⟨rfl, k⟩
theorem c_test (k : te σ H fun x H' => ∃ k, x = .bl k ∧ QT k H') : tTest te σ H QT := k
theorem c_B (k : te σ H fun x H' => ∃ k, x = .bl k ∧ QT k H') : tB te σ H QT := k
theorem c_bl {b : Bool} {P : Bool → Prop} (k : P b) : ∃ k, V.bl b = .bl k ∧ P k := ⟨b, rfl, k⟩
theorem c_tru (k : te σ H fun x H' => ∃ k, TruV K x H' k ∧ QT k H') : tTru K te σ H QT := k
theorem c_andT (k : tt σ H fun c H1 => if c = true then tu σ H1 QT else QT false H1) : tAnd tt tu σ H QT := k
theorem c_orT (k : tt σ H fun c H1 => if c = true then QT true H1 else tu σ H1 QT) : tOr tt tu σ H QT := k
theorem c_notT (k : tt σ H fun c H1 => QT (!c) H1) : tNot tt σ H QT := k
theorem c_andV (k : ta σ H fun x H1 => ∃ c, x = .bl c ∧ if c = true then tb σ H1 Q else Q (.bl false) H1) : tAndV ta tb σ H Q := k
theorem c_orV (k : ta σ H fun x H1 => ∃ c, x = .bl c ∧ if c = true then Q (.bl true) H1 else tb σ H1 Q) : tOrV ta tb σ H Q := k
theorem c_notV (k : ta σ H fun x H1 => ∃ c, x = .bl c ∧ Q (.bl (!c)) H1) : tNotV ta σ H Q := k
theorem c_if (k : tt σ H fun c H1 => if c = true then ta σ H1 Q else tb σ H1 Q) : tIf tt ta tb σ H Q := k
theorem c_ite {A B : Prop} (h1 : P → A) (h2 : ¬ P → B) : if decide P = true then A else B := by
  by_cases h : P
  · rw [if_pos (decide_eq_true h)]; exact h1 h
  · rw [if_neg (by simpa using h)]; exact h2 h
theorem c_iteN {A B : Prop} (h1 : ¬ P → A) (h2 : P → B) : if (!decide P) = true then A else B := by
  by_cases h : P
  · rw [if_neg (by simpa using h)]; exact h2 h
  · rw [if_pos (by simpa using h)]; exact h1 h
theorem c_iteb {b : Bool} {A B : Prop} (h1 : b = true → A) (h2 : b = false → B) : if b = true then A else B := by
  cases b
  · exact h2 rfl
  · exact h1 rfl
theorem c_iteT {A B : Prop} (h : A) : if true = true then A else B := h
theorem c_iteF {A B : Prop} (h : B) : if false = true then A else B := h
theorem c_iteNT {A B : Prop} (h : B) : if (!true) = true then A else B := h
theorem c_iteNF {A B : Prop} (h : A) : if (!false) = true then A else B := h
theorem c_nil (k : QA [] H) : tNil σ H QA := k
theorem c_cons (k : ta σ H fun x H1 => tr σ H1 fun xs H2 => QA (x :: xs) H2) : tCons ta tr σ H QA := k
theorem c_CB {r : List V → Hp → VK → Prop} (k : tr σ H fun vs H1 => r vs H1 Q) : tCB r tr σ H Q := k
theorem c_int1 (k : Q (.int i) H) : rInt1 [.int i] H Q := .inl ⟨i, rfl, k⟩
theorem c_int1b {b : Bool} (k : Q (.int (if b then 1 else 0)) H) : rInt1 [.bl b] H Q := .inr ⟨b, rfl, k⟩
theorem c_bool1 (k : Q (.bl (i != 0)) H) : rBool1 [.int i] H Q := .inl ⟨i, rfl, k⟩
theorem c_abs1 (k : Q (.int (if i < 0 then -i else i)) H) : rAbs1 [.int i] H Q := ⟨i, rfl, k⟩
theorem c_min2 (k : Q (.int (min i j)) H) : rMin2 [.int i, .int j] H Q := ⟨i, j, rfl, by
  have e : (if j < i then j else i) = min i j := by split <;> omega
  rw [e]; exact k⟩
theorem c_max2 (k : Q (.int (max i j)) H) : rMax2 [.int i, .int j] H Q := ⟨i, j, rfl, by
  have e : (if j > i then j else i) = max i j := by split <;> omega
  rw [e]; exact k⟩
theorem c_lenL {a : Addr} {xs : List V} (h : SqL K H a xs) (k : Q (.int xs.length) H) : rLen K [.ref a] H Q := ⟨.ref a, xs.length, rfl, .inl ⟨xs, h, rfl⟩, k⟩
theorem c_lenT {a : Addr} {xs : List V} (h : SqT K H a xs) (k : Q (.int xs.length) H) : rLen K [.ref a] H Q := ⟨.ref a, xs.length, rfl, .inr ⟨xs, h, rfl⟩, k⟩
theorem c_lenS {z : Str} (h : z.length ≤ sizeLine) (k : Q (.int z.length) H) : rLen K [.str z] H Q := ⟨.str z, z.length, rfl, ⟨h, rfl⟩, k⟩
theorem c_call {sp : Sp} {dvs : List V} {E : XK} (k : tr σ H fun vs H1 => sp (vs ++ dvs) H1 Q E) : tCall sp dvs E tr σ H Q := k
/-- statements -/
theorem c_seq (k : t { D with nx := u D } σ H) : tSeq t u D σ H := k
theorem c_seqAsg (k : te σ H fun x H1 => u D (σ.set n (some x)) H1) : tSeq (tAsg te (gName n)) u D σ H := k
theorem c_seqIf (k : tt σ H fun b H1 => if b = true then t { D with nx := u D } σ H1 else w { D with nx := u D } σ H1) : tSeq (tIfS tt t w) u D σ H := k
/-- an if without else whose branch does not come back is one with the rest behind it -/
theorem c_seqWhen (k : tt σ H fun b H1 => if b = true then t { D with nx := u D } σ H1 else u D σ H1) : tSeq (tIfS tt t tNext) u D σ H := k
theorem cut (M : L2.St → Hp → Prop) (h : t { D with nx := M } σ H) (k : ∀ σ' H', M σ' H' → u D σ' H') : Evl.tCut t u D σ H := ⟨M, h, k⟩
theorem cutA (h : t { D with nx := u D } σ H) : Evl.tCut t u D σ H := ⟨u D, h, fun _ _ q => q⟩
theorem c_ifS (k : tt σ H fun b H1 => if b = true then t D σ H1 else w D σ H1) : tIfS tt t w D σ H := k
theorem c_ret (k : te σ H D.rt) : tRet te D σ H := k
theorem c_retN (k : D.rt .non H) : tRetN D σ H := k
theorem c_asg {g : TG} (k : te σ H fun x H1 => g x σ H1 D.nx) : tAsg te g D σ H := k
theorem c_asgN (k : te σ H fun x H1 => D.nx (σ.set n (some x)) H1) : tAsg te (gName n) D σ H := k
theorem c_drop (k : te σ H fun _ H1 => D.nx σ H1) : tDrop te D σ H := k
theorem c_next (k : D.nx σ H) : tNext D σ H := k
theorem c_break (k : D.bk σ H) : tBreak D σ H := k
theorem c_cont (k : D.ct σ H) : tCont D σ H := k
theorem c_aug {ti : TIp} (h : σ[n]? = some (some x)) (k : te σ H fun y H1 => ti x y H1 fun z H2 => D.nx (σ.set n (some z)) H2) : tAug n te ti D σ H := ⟨x, h, k⟩
theorem c_ipI {f : Int → Int → Int} (k : Q (.int (f i j)) H) : ipI f (.int i) (.int j) H Q := ⟨i, j, rfl, rfl, k⟩
/-- new objects -/
theorem c_tup (k : tr σ H fun xs H1 => xs.length ≤ sizeLine ∧ NewO (.tup xs) Q H1) : tTup tr σ H Q := k
theorem c_lst (k : tr σ H fun xs H1 => xs.length ≤ sizeLine ∧ NewO (.lst xs) Q H1) : tLst tr σ H Q := k
theorem c_new1 {o : HO} (k : ∀ p H1, H p = none → Same H H1 → H1 p = some o → Q (.ref p) H1) : NewO o Q H :=
  fun p hp => k p _ hp (Same.new hp) upd_same
theorem c_new {o : HO} {B : Prop} (hb : B) (k : ∀ p H1, H p = none → Same H H1 → H1 p = some o → Q (.ref p) H1) : B ∧ NewO o Q H := ⟨hb, c_new1 k⟩
/-- lists -/
theorem c_ixL {p : Addr} {xs : List V} (h : SqL K H p xs) (e : atI xs i = some v) (k : Q v H) : rIxL K (.ref p) (.int i) H Q := ⟨p, xs, i, v, rfl, rfl, h, e, k⟩
theorem c_ixT {p : Addr} {xs : List V} (h : SqT K H p xs) (e : atI xs i = some v) (k : Q v H) : rIxT K (.ref p) (.int i) H Q := ⟨p, xs, i, v, rfl, rfl, h, e, k⟩
theorem c_ixS {z : Str} {c : Nat} (h : z.length ≤ sizeLine) (e : atI z.cps.toList i = some c) (k : Q (.str ⟨#[c]⟩) H) : rIxS (.str z) (.int i) H Q := ⟨z, i, c, rfl, rfl, h, e, k⟩
theorem c_setL {p : Addr} {xs : List V} {j : Nat} {QH : Hp → Prop} (h : H p = some (.lst xs)) (e : ixN xs.length i = some j) (k : ∀ H1, Mu p H H1 → H1 p = some (.lst (xs.set j v)) → QH H1) : rSetL (.ref p) (.int i) v H QH :=
  ⟨p, xs, i, j, rfl, rfl, h, e, k _ Mu.upd upd_same⟩
theorem c_gSub {to ti : TE} {ts : TSet} {QS : L2.St → Hp → Prop} (k : to σ H fun o H1 => ti σ H1 fun i H2 => ts o i v H2 fun H3 => QS σ H3) : gSub to ti ts v σ H QS := k
theorem c_BM {T : String} {r : V → List V → Hp → VK → Prop} (k : te σ H fun x H1 => tyV K T x H1 ∧ tr σ H1 fun xs H2 => r x xs H2 Q) : tBM K T r te tr σ H Q := k
theorem c_BM0 {T : String} {r : V → List V → Hp → VK → Prop} (k : te σ H fun x H1 => tyV K T x H1 ∧ r x [] H1 Q) : tBM0 K T r te σ H Q := k
theorem c_tyL {a : Addr} {xs : List V} {B : Prop} (h : H a = some (.lst xs)) (k : B) : tyV K "list" (.ref a) H ∧ B := ⟨Or.inl ⟨rfl, _, Or.inl (Or.inl h)⟩, k⟩
theorem c_append {l : Addr} {xs : List V} (h : H l = some (.lst xs)) (hz : xs.length < sizeLine) (k : ∀ H1, Mu l H H1 → H1 l = some (.lst (xs ++ [y])) → Q .non H1) : rAppend (.ref l) [y] H Q :=
  ⟨l, xs, y, rfl, rfl, h, hz, k _ Mu.upd upd_same⟩
theorem c_extend {l b : Addr} {xs zs : List V} (h : H l = some (.lst xs)) (hb : H b = some (.lst zs)) (hz : xs.length + zs.length ≤ sizeLine) (k : ∀ H1, Mu l H H1 → H1 l = some (.lst (xs ++ zs)) → Q .non H1) : rExtend (.ref l) [.ref b] H Q :=
  ⟨l, b, xs, zs, rfl, rfl, h, hb, hz, k _ Mu.upd upd_same⟩
theorem c_pop {l : Addr} {xs : List V} (h : H l = some (.lst xs)) (e : xs[xs.length - 1]? = some y) (k : ∀ H1, Mu l H H1 → H1 l = some (.lst xs.dropLast) → Q y H1) : rPop (.ref l) [] H Q :=
  ⟨l, xs, y, rfl, rfl, h, e, k _ Mu.upd upd_same⟩
theorem c_cat {l b : Addr} {xs zs : List V} (h : H l = some (.lst xs)) (hb : H b = some (.lst zs)) (hz : xs.length + zs.length ≤ sizeLine) (k : ∀ p H1, H p = none → Same H H1 → H1 p = some (.lst (xs ++ zs)) → Q (.ref p) H1) : rCat (.ref l) (.ref b) H Q :=
  ⟨l, b, xs, zs, rfl, rfl, h, hb, hz, c_new1 k⟩
theorem c_slL {a : Addr} {xs : List V} {lo hi : Option Int} (h : SqL K H a xs) (k : ∀ p H1, H p = none → Same H H1 → H1 p = some (.lst (cutV xs lo hi)) → Q (.ref p) H1) : rSlL K (.ref a) lo hi H Q :=
  ⟨a, xs, rfl, h, c_new1 k⟩
theorem c_sl {r : V → Option Int → Option Int → Hp → VK → Prop} {tl th : TO} (k : te σ H fun x H1 => tl σ H1 fun l H2 => th σ H2 fun u H3 => r x l u H3 Q) : tSl r te tl th σ H Q := k
theorem c_noPart {QO : Option Int → Hp → Prop} (k : QO none H) : tNoPart σ H QO := k
theorem c_part {QO : Option Int → Hp → Prop} (k : te σ H fun x H1 => ∃ i, x = .int i ∧ QO (some i) H1) : tPart te σ H QO := k
theorem c_exI {P : Int → Prop} (k : P i) : ∃ k, V.int i = .int k ∧ P k := ⟨i, rfl, k⟩
/-- targets -/
theorem g_name {QS : L2.St → Hp → Prop} (k : QS (σ.set n (some v)) H) : gName n v σ H QS := k
theorem g_tup {QS : L2.St → Hp → Prop} {m : Nat} {tg : TGs} {a : Addr} {xs : List V} (h : SqT K H a xs) (e : xs.length = m) (k : tg xs σ H QS) : gTup K m tg (.ref a) σ H QS := ⟨a, xs, rfl, h, e, k⟩
theorem g_cons {QS : L2.St → Hp → Prop} {g : TG} {gs : TGs} {vs : List V} (k : g v σ H fun σ' H' => gs vs σ' H' QS) : gCons g gs (v :: vs) σ H QS := ⟨v, vs, rfl, k⟩
theorem g_nil {QS : L2.St → Hp → Prop} (k : QS σ H) : gNil [] σ H QS := ⟨rfl, k⟩
end
/-! ### loops -/
section
variable {K : PySem.W.Frag} {σ : L2.St} {H : Hp} {g : TG} {tb : TS} {D : Ends} {tl : TE} {ta : TA} {a : Addr} {xs : List V} {x : V}
/-- a for over the list x -/
def FL (K : PySem.W.Frag) (g : TG) (tb : TS) (D : Ends) (x : V) (σ : L2.St) (H : Hp) : Prop := tFor (iList K (tC x)) g tb D σ H
def FT (K : PySem.W.Frag) (g : TG) (tb : TS) (D : Ends) (x : V) (σ : L2.St) (H : Hp) : Prop := tFor (iTup K (tC x)) g tb D σ H
def FR (g : TG) (tb : TS) (D : Ends) (lo : Int) (n : Nat) (σ : L2.St) (H : Hp) : Prop := ∃ W : Nat → Nat → L2.St → Hp → Prop, (∃ m, W 0 m σ H) ∧ ∀ i m σ H, W i m σ H →
  ((Itr lo n).stop i H ∧ D.nx σ H) ∨ ((Itr lo n).go i H ∧ ∃ N : L2.St → Hp → Prop, (∀ σ' H', N σ' H' → ∃ m', m' < m ∧ W (i + 1) m' σ' H') ∧ ∀ x H', (Itr lo n).yld i H x H' → g x σ H' fun σ2 H2 => tb { D with nx := N, ct := N, bk := D.nx } σ2 H2)
theorem c_forL (k : tl σ H fun x H1 => FL K g tb D x σ H1) : tFor (iList K tl) g tb D σ H := k
theorem c_forT (k : tl σ H fun x H1 => FT K g tb D x σ H1) : tFor (iTup K tl) g tb D σ H := k
def bnd62 (i : Int) : Prop := -(2 ^ 62) ≤ i ∧ i < 2 ^ 62
theorem c_forR1 (k : ta σ H fun vs H1 => ∃ j : Int, vs = [.int j] ∧ bnd62 j ∧ FR g tb D 0 j.toNat σ H1) : tFor (iRng1 ta) g tb D σ H := by
  have e : (fun (vs : List V) (H1 : Hp) => ∃ j : Int, vs = [V.int j] ∧ bnd62 j ∧ FR g tb D 0 j.toNat σ H1) = fun vs H1 => ∃ j : Int, vs = [.int j] ∧ -(2 ^ 62) ≤ j ∧ j < 2 ^ 62 ∧ FR g tb D 0 j.toNat σ H1 := by
    funext vs H1
    simp only [bnd62, and_assoc]
  rw [e] at k
  exact k
theorem c_forR2 (k : ta σ H fun vs H1 => ∃ i j : Int, vs = [.int i, .int j] ∧ (bnd62 i ∧ bnd62 j) ∧ FR g tb D i (j - i).toNat σ H1) : tFor (iRng2 ta) g tb D σ H := by
  have e : (fun (vs : List V) (H1 : Hp) => ∃ i j : Int, vs = [V.int i, V.int j] ∧ (bnd62 i ∧ bnd62 j) ∧ FR g tb D i (j - i).toNat σ H1) = fun vs H1 => ∃ i j : Int, vs = [.int i, .int j] ∧ (-(2 ^ 62) ≤ i ∧ i < 2 ^ 62 ∧ -(2 ^ 62) ≤ j ∧ j < 2 ^ 62) ∧ FR g tb D i (j - i).toNat σ H1 := by
    funext vs H1
    simp only [bnd62, and_assoc]
  rw [e] at k
  exact k
theorem fr_in1 {P : Int → Nat → Prop} {j : Int} (h : bnd62 j) (k : P 0 j.toNat) : ∃ i : Int, [V.int j] = [.int i] ∧ bnd62 i ∧ P 0 i.toNat := ⟨j, rfl, h, k⟩
theorem fr_in2 {P : Int → Nat → Prop} {i j : Int} (h : bnd62 i) (h' : bnd62 j) (k : P i (j - i).toNat) : ∃ i' j' : Int, [V.int i, V.int j] = [.int i', .int j'] ∧ (bnd62 i' ∧ bnd62 j') ∧ P i' (j' - i').toNat := ⟨i, j, rfl, ⟨h, h'⟩, k⟩
theorem fl_use (h : SqL K H a xs) (Pv : Nat → L2.St → Hp → Prop) (h0 : Pv 0 σ H) (hl : ∀ i σ H, i ≤ xs.length → Pv i σ H → SqL K H a xs)
    (hs : ∀ i x σ H, xs[i]? = some x → Pv i σ H → g x σ H fun σ2 H2 => tb { D with nx := Pv (i + 1), ct := Pv (i + 1), bk := D.nx } σ2 H2) (hd : ∀ σ H, Pv xs.length σ H → D.nx σ H) : FL K g tb D (.ref a) σ H :=
  ⟨a, rfl, ⟨xs, h⟩, for_list Pv h0 hl hs hd⟩
/-- .. where all that stood stays -/
theorem fl_s (h : SqL K H a xs) (Pv : Nat → L2.St → Hp → Prop) (h0 : Pv 0 σ H)
    (hs : ∀ i x σ' H', xs[i]? = some x → Same H H' → Pv i σ' H' → g x σ' H' fun σ2 H2 => tb { D with nx := fun σ3 H3 => Same H H3 ∧ Pv (i + 1) σ3 H3, ct := fun σ3 H3 => Same H H3 ∧ Pv (i + 1) σ3 H3, bk := D.nx } σ2 H2) (hd : ∀ σ' H', Same H H' → Pv xs.length σ' H' → D.nx σ' H') : FL K g tb D (.ref a) σ H :=
  fl_use h (fun i σ' H' => Same H H' ∧ Pv i σ' H') ⟨Same.refl H, h0⟩ (fun _ _ _ _ p => p.1.seq h) (fun i x σ' H' e p => hs i x σ' H' e p.1 p.2) fun σ' H' p => hd σ' H' p.1 p.2
theorem ft_use (h : SqT K H a xs) (Pv : Nat → L2.St → Hp → Prop) (h0 : Pv 0 σ H) (hl : ∀ i σ H, i ≤ xs.length → Pv i σ H → SqT K H a xs)
    (hs : ∀ i x σ H, xs[i]? = some x → Pv i σ H → g x σ H fun σ2 H2 => tb { D with nx := Pv (i + 1), ct := Pv (i + 1), bk := D.nx } σ2 H2) (hd : ∀ σ H, Pv xs.length σ H → D.nx σ H) : FT K g tb D (.ref a) σ H :=
  ⟨a, rfl, ⟨xs, h⟩, for_tup Pv h0 hl hs hd⟩
theorem ft_s (h : SqT K H a xs) (Pv : Nat → L2.St → Hp → Prop) (h0 : Pv 0 σ H)
    (hs : ∀ i x σ' H', xs[i]? = some x → Same H H' → Pv i σ' H' → g x σ' H' fun σ2 H2 => tb { D with nx := fun σ3 H3 => Same H H3 ∧ Pv (i + 1) σ3 H3, ct := fun σ3 H3 => Same H H3 ∧ Pv (i + 1) σ3 H3, bk := D.nx } σ2 H2) (hd : ∀ σ' H', Same H H' → Pv xs.length σ' H' → D.nx σ' H') : FT K g tb D (.ref a) σ H :=
  ft_use h (fun i σ' H' => Same H H' ∧ Pv i σ' H') ⟨Same.refl H, h0⟩ (fun _ _ _ _ p => sqt_s p.1 h) (fun i x σ' H' e p => hs i x σ' H' e p.1 p.2) fun σ' H' p => hd σ' H' p.1 p.2
theorem fr_use {lo : Int} {n : Nat} (Pv : Nat → L2.St → Hp → Prop) (h0 : Pv 0 σ H) (hs : ∀ i σ H, i < n → Pv i σ H → g (.int (lo + i)) σ H fun σ2 H2 => tb { D with nx := Pv (i + 1), ct := Pv (i + 1), bk := D.nx } σ2 H2) (hd : ∀ σ H, Pv n σ H → D.nx σ H) : FR g tb D lo n σ H :=
  for_range Pv h0 hs hd
end
/-! ### isinstance -/
section
variable {K : PySem.W.Frag} {H : Hp} {Q : VK} {i : Int} {b : Bool} {z : Str} {a : Addr} {xs : List V}
theorem c_isi {x : V} {t : Value} {n : String} {b : Bool} (ty : TyX K H x t) (e : PySem.W.kitOne K t (.type n) = some b) (k : Q (.bl b) H) : rIsi K [x, .ty n] H Q := ⟨x, .ty n, t, .type n, b, rfl, .ty n, ty, e, k⟩
theorem isi_int_int (k : Q (.bl true) H) : rIsi K [.int i, .ty "int"] H Q := c_isi (.base (.int _)) (kit_ty (by decide +kernel)) k
theorem isi_int_bool (k : Q (.bl false) H) : rIsi K [.int i, .ty "bool"] H Q := c_isi (.base (.int _)) (kit_ty (by decide +kernel)) k
theorem isi_int_tuple (k : Q (.bl false) H) : rIsi K [.int i, .ty "tuple"] H Q := c_isi (.base (.int _)) (kit_ty (by decide +kernel)) k
theorem isi_int_list (k : Q (.bl false) H) : rIsi K [.int i, .ty "list"] H Q := c_isi (.base (.int _)) (kit_ty (by decide +kernel)) k
theorem isi_int_str (k : Q (.bl false) H) : rIsi K [.int i, .ty "str"] H Q := c_isi (.base (.int _)) (kit_ty (by decide +kernel)) k
theorem isi_bl_int (k : Q (.bl true) H) : rIsi K [.bl b, .ty "int"] H Q := c_isi (.base (.bl _)) (kit_ty (by decide +kernel)) k
theorem isi_bl_bool (k : Q (.bl true) H) : rIsi K [.bl b, .ty "bool"] H Q := c_isi (.base (.bl _)) (kit_ty (by decide +kernel)) k
theorem isi_bl_tuple (k : Q (.bl false) H) : rIsi K [.bl b, .ty "tuple"] H Q := c_isi (.base (.bl _)) (kit_ty (by decide +kernel)) k
theorem isi_bl_list (k : Q (.bl false) H) : rIsi K [.bl b, .ty "list"] H Q := c_isi (.base (.bl _)) (kit_ty (by decide +kernel)) k
theorem isi_bl_str (k : Q (.bl false) H) : rIsi K [.bl b, .ty "str"] H Q := c_isi (.base (.bl _)) (kit_ty (by decide +kernel)) k
theorem isi_str_int (k : Q (.bl false) H) : rIsi K [.str z, .ty "int"] H Q := c_isi (.base (.str _)) (kit_ty (by decide +kernel)) k
theorem isi_str_bool (k : Q (.bl false) H) : rIsi K [.str z, .ty "bool"] H Q := c_isi (.base (.str _)) (kit_ty (by decide +kernel)) k
theorem isi_str_tuple (k : Q (.bl false) H) : rIsi K [.str z, .ty "tuple"] H Q := c_isi (.base (.str _)) (kit_ty (by decide +kernel)) k
theorem isi_str_list (k : Q (.bl false) H) : rIsi K [.str z, .ty "list"] H Q := c_isi (.base (.str _)) (kit_ty (by decide +kernel)) k
theorem isi_str_str (k : Q (.bl true) H) : rIsi K [.str z, .ty "str"] H Q := c_isi (.base (.str _)) (kit_ty (by decide +kernel)) k
theorem tyx_t (h : SqT K H a xs) : TyX K H (.ref a) (.type "tuple") := by
  rcases h with (h | ⟨o, h⟩) | ⟨o, its, n, h, c, _⟩
  · exact .base (.tup h)
  · exact .fTuple h
  · exact .kTuple h c
theorem tyx_l (h : SqL K H a xs) : TyX K H (.ref a) (.type "list") := by
  rcases h with (h | ⟨o, h⟩) | ⟨o, its, n, h, c, _⟩
  · exact .base (.lst h)
  · exact .base (.frz h)
  · exact .kList h c
theorem isi_t_tuple (h : SqT K H a xs) (k : Q (.bl true) H) : rIsi K [.ref a, .ty "tuple"] H Q := c_isi (tyx_t h) (kit_ty (by decide +kernel)) k
theorem isi_t_list (h : SqT K H a xs) (k : Q (.bl false) H) : rIsi K [.ref a, .ty "list"] H Q := c_isi (tyx_t h) (kit_ty (by decide +kernel)) k
theorem isi_t_int (h : SqT K H a xs) (k : Q (.bl false) H) : rIsi K [.ref a, .ty "int"] H Q := c_isi (tyx_t h) (kit_ty (by decide +kernel)) k
theorem isi_t_bool (h : SqT K H a xs) (k : Q (.bl false) H) : rIsi K [.ref a, .ty "bool"] H Q := c_isi (tyx_t h) (kit_ty (by decide +kernel)) k
theorem isi_t_str (h : SqT K H a xs) (k : Q (.bl false) H) : rIsi K [.ref a, .ty "str"] H Q := c_isi (tyx_t h) (kit_ty (by decide +kernel)) k
theorem isi_l_tuple (h : SqL K H a xs) (k : Q (.bl false) H) : rIsi K [.ref a, .ty "tuple"] H Q := c_isi (tyx_l h) (kit_ty (by decide +kernel)) k
theorem isi_l_list (h : SqL K H a xs) (k : Q (.bl true) H) : rIsi K [.ref a, .ty "list"] H Q := c_isi (tyx_l h) (kit_ty (by decide +kernel)) k
theorem isi_l_int (h : SqL K H a xs) (k : Q (.bl false) H) : rIsi K [.ref a, .ty "int"] H Q := c_isi (tyx_l h) (kit_ty (by decide +kernel)) k
theorem isi_l_bool (h : SqL K H a xs) (k : Q (.bl false) H) : rIsi K [.ref a, .ty "bool"] H Q := c_isi (tyx_l h) (kit_ty (by decide +kernel)) k
theorem isi_l_str (h : SqL K H a xs) (k : Q (.bl false) H) : rIsi K [.ref a, .ty "str"] H Q := c_isi (tyx_l h) (kit_ty (by decide +kernel)) k
theorem isi_non_int (k : Q (.bl false) H) : rIsi K [.non, .ty "int"] H Q := c_isi (.base .non) (kit_ty (by decide +kernel)) k
theorem isi_non_bool (k : Q (.bl false) H) : rIsi K [.non, .ty "bool"] H Q := c_isi (.base .non) (kit_ty (by decide +kernel)) k
theorem isi_non_tuple (k : Q (.bl false) H) : rIsi K [.non, .ty "tuple"] H Q := c_isi (.base .non) (kit_ty (by decide +kernel)) k
theorem isi_non_list (k : Q (.bl false) H) : rIsi K [.non, .ty "list"] H Q := c_isi (.base .non) (kit_ty (by decide +kernel)) k
theorem isi_non_str (k : Q (.bl false) H) : rIsi K [.non, .ty "str"] H Q := c_isi (.base .non) (kit_ty (by decide +kernel)) k
end
/-! ### ends -/
section
variable {Q : VK} {H : Hp}
theorem q_int {a b : Int} (k : Q (.int a) H) (e : a = b) : Q (.int b) H := e ▸ k
theorem q_bl {a b : Bool} (k : Q (.bl a) H) (e : a = b) : Q (.bl b) H := e ▸ k
theorem q_str {a b : Str} (k : Q (.str a) H) (e : a = b) : Q (.str b) H := e ▸ k
end
/-! ### small words -/
theorem sz_small {n : Nat} (h : n ≤ 10000000) : n ≤ sizeLine := Nat.le_trans h (by rw [sizeLine_eq]; decide)
theorem sz_smallL {n : Nat} (h : n < 10000000) : n < sizeLine := Nat.lt_of_lt_of_le h (by rw [sizeLine_eq]; decide)

theorem mut_l {H : Hp} {a : Addr} {xs : List V} (h : H a = some (.lst xs)) : Mut (H a) := by rw [h]; exact trivial
theorem mut_i {H : Hp} {a C dx : Addr} {fs : List (Str × V)} (h : H a = some (.ins C dx fs)) : Mut (H a) := by rw [h]; exact trivial
theorem mut_d {H : Hp} {a : Addr} {kvs : List (Key × V)} (h : H a = some (.dK kvs)) : Mut (H a) := by rw [h]; exact trivial
end R
namespace R
open PySem PySem.Spec PyProof.Rows L2
/-! ### the steps, as local rows -/
/-- what stands at an address -/
local macro_rules | `(tactic| k_subL) => `(tactic| first
  | assumption
  | ((with_reducible refine' SqT.of ?h1); (case h1 => k_subL))
  | ((with_reducible refine' SqL.of ?h1); (case h1 => k_subL))
  | ((with_reducible refine' lk_s ?h1 ?h2); (case h1 => assumption); (case h2 => k_subL))
  | ((with_reducible refine' lk_m ?h1 ?h2 ?h3); (case h1 => assumption); (case h3 => k_subL); (case h2 => k_clsL))
  | ((with_reducible refine' sqt_s ?h1 ?h2); (case h1 => assumption); (case h2 => k_subL))
  | ((with_reducible refine' sql_s ?h1 ?h2); (case h1 => assumption); (case h2 => k_subL))
  | ((with_reducible refine' sqt_m ?h1 ?h2 ?h3); (case h1 => assumption); (case h3 => k_subL); (case h2 => k_ownIn))
  | ((with_reducible refine' sql_m ?h1 ?h2 ?h3); (case h1 => assumption); (case h3 => k_subL); (case h2 => k_clsL))
  | ((with_reducible refine' Dp.same ?h1 ?h2); (case h1 => assumption); (case h2 => k_subL))
  | ((with_reducible refine' DpAll.same ?h1 ?h2); (case h1 => assumption); (case h2 => k_subL)))
/-- it is of a kind that may change -/
local macro_rules | `(tactic| k_ownIn) => `(tactic| first | (refine' mut_l ?h1; (case h1 => k_subL)) | (refine' mut_i ?h1; (case h1 => k_subL)) | (refine' mut_d ?h1; (case h1 => k_subL)))
local macro_rules | `(tactic| k_clsL) => `(tactic| first
  | assumption
  | (refine' Ne.symm ?h1; assumption)
  | (refine' ne_of_none ?h1 ?h2; (case h2 => assumption); (case h1 => k_subL))
  | (refine' Ne.symm (ne_of_none ?h1 ?h2); (case h2 => assumption); (case h1 => k_subL))
  | (refine' ne_of ?h1 ?h2 ?h3; (case h1 => k_subL); (case h2 => k_subL); (case h3 => intro z; cases z)))
local macro_rules | `(tactic| k_memK) => `(tactic| first
  | assumption
  | (refine' Same.free ?h1 ?h2; (case h2 => assumption); (case h1 => k_offL)))
local macro_rules | `(tactic| k_offL) => `(tactic| first
  | assumption
  | exact Same.refl _
  | (refine' Same.trans ?h1 ?h2; (case h2 => assumption); (case h1 => k_offL))
  | (refine' Same.mut ?h1 ?h2 ?h3; (case h2 => assumption); (case h1 => k_offL); (case h3 => k_memK)))
local macro_rules | `(tactic| k_allIn) => `(tactic| first
  | assumption
  | (refine' Mu.transS ?h1 ?h2; (case h2 => assumption); (case h1 => k_allIn))
  | (refine' Mu.trans ?h1 ?h2; (case h2 => assumption); (case h1 => k_allIn))
  | (refine' Same.mu ?h1; k_offL))
/-- one step of a reading -/
local macro_rules | `(tactic| k_caught0) => `(tactic| with_reducible first
  | refine c_seqAsg ?_
  | refine c_seqWhen ?_
  | refine c_seqIf ?_
  | refine c_var0 ?_
  | refine c_var1 ?_
  | refine c_var2 ?_
  | refine c_var3 ?_
  | refine c_var4 ?_
  | refine c_var5 ?_
  | refine c_var6 ?_
  | refine c_var7 ?_
  | refine c_c ?_
  | refine c_op ?_
  | refine c_I0 ?_
  | refine c_test ?_
  | refine c_B ?_
  | refine c_bl ?_
  | refine c_iteT ?_
  | refine c_iteF ?_
  | refine c_iteNT ?_
  | refine c_iteNF ?_
  | refine c_eqI ?_
  | refine c_eqS ?_
  | refine c_neI ?_
  | refine c_neS ?_
  | refine c_nil ?_
  | refine c_cons ?_
  | refine c_CB ?_
  | refine c_call ?_
  | refine c_ret ?_
  | refine c_ifS ?_
  | refine c_seq ?_
  | refine c_asgN ?_
  | refine c_asg ?_
  | refine c_drop ?_
  | refine c_andT ?_
  | refine c_orT ?_
  | refine c_notT ?_
  | refine c_andV ?_
  | refine c_orV ?_
  | refine c_notV ?_
  | refine c_if ?_
  | refine c_un ?_
  | refine c_U ?_
  | refine c_int1 ?_
  | refine c_int1b ?_
  | refine c_min2 ?_
  | refine c_max2 ?_
  | refine c_abs1 ?_
  | refine c_isN ?_
  | refine c_notN ?_
  | refine c_tup ?_
  | refine c_lst ?_
  | refine c_BM ?_
  | refine c_BM0 ?_
  | refine c_sl ?_
  | refine c_noPart ?_
  | refine c_part ?_
  | refine c_exI ?_
  | refine c_gSub ?_
  | refine c_next ?_
  | refine c_cont ?_
  | refine c_break ?_
  | refine c_retN ?_
  | refine g_cons ?_
  | refine g_nil ?_
  | refine g_name ?_
  | refine c_sp1 ?_
  | refine c_sp2 ?_
  | refine c_sp3 ?_
  | refine c_sp4 ?_
  | refine c_sp5 ?_
  | refine c_sp0 ?_
  | refine c_sp6 ?_
  | refine c_eqB ?_
  | refine c_neB ?_
  | refine c_eqIS ?_
  | refine c_eqSI ?_
  | refine c_tru ?_
  | refine c_forL ?_
  | refine c_forT ?_
  | refine c_forR1 ?_
  | refine c_forR2 ?_
  | refine isi_int_int ?_
  | refine isi_int_bool ?_
  | refine isi_int_tuple ?_
  | refine isi_int_list ?_
  | refine isi_int_str ?_
  | refine isi_bl_int ?_
  | refine isi_bl_bool ?_
  | refine isi_bl_tuple ?_
  | refine isi_bl_list ?_
  | refine isi_bl_str ?_
  | refine isi_str_int ?_
  | refine isi_str_bool ?_
  | refine isi_str_tuple ?_
  | refine isi_str_list ?_
  | refine isi_str_str ?_
  | refine isi_non_int ?_
  | refine isi_non_bool ?_
  | refine isi_non_tuple ?_
  | refine isi_non_list ?_
  | refine isi_non_str ?_
  | refine c_var8 ?_
  | refine c_var9 ?_
  | refine c_var10 ?_
  | refine c_var11 ?_
  | refine c_var12 ?_
  | refine c_var13 ?_
  | refine c_var14 ?_
  | refine c_var15 ?_
  | refine c_var16 ?_
  | refine c_var17 ?_
  | refine c_var18 ?_
  | refine c_var19 ?_
  | refine c_var20 ?_
  | refine c_var21 ?_
  | refine c_var22 ?_
  | refine c_var23 ?_)
/-- a size -/
local macro_rules | `(tactic| k_caughtNB) => `(tactic| first | exact sz_small (by decide) | (apply sz_small; simp; done) | (apply sz_small; simp; omega) | exact sz_smallL (by decide) | (apply sz_smallL; simp; done) | (apply sz_smallL; simp; omega))
/-- a step that asks the heap -/
local macro_rules | `(tactic| k_caughtB) => `(tactic| first
  | k_caught0
  | ((with_reducible refine' c_new ?h1 (fun p H1 hp hS h1 => ?_)); (case h1 => k_caughtNB))
  | (with_reducible refine c_new1 (fun p H1 hp hS h1 => ?_))
  | ((with_reducible refine' c_ixL ?h1 ?h2 ?_); (case h1 => k_subL); (case h2 => rfl))
  | ((with_reducible refine' c_ixT ?h1 ?h2 ?_); (case h1 => k_subL); (case h2 => rfl))
  | ((with_reducible refine' c_setL ?h1 ?h2 (fun H1 hM h1 => ?_)); (case h1 => k_subL); (case h2 => rfl))
  | ((with_reducible refine' c_tyL ?h1 ?_); (case h1 => k_subL))
  | ((with_reducible refine' c_append ?h1 ?h2 (fun H1 hM h1 => ?_)); (case h1 => k_subL); (case h2 => k_caughtNB))
  | ((with_reducible refine' c_cat ?h1 ?h2 ?h3 (fun p H1 hp hS h1 => ?_)); (case h1 => k_subL); (case h2 => k_subL); (case h3 => k_caughtNB))
  | ((with_reducible refine' c_lenL ?h1 ?_); (case h1 => k_subL))
  | ((with_reducible refine' c_lenT ?h1 ?_); (case h1 => k_subL))
  | ((with_reducible refine' g_tup ?h1 ?h2 ?_); (case h1 => k_subL); (case h2 => rfl))
  | ((with_reducible refine' isi_t_int ?h1 ?_); (case h1 => k_subL))
  | ((with_reducible refine' isi_t_bool ?h1 ?_); (case h1 => k_subL))
  | ((with_reducible refine' isi_t_tuple ?h1 ?_); (case h1 => k_subL))
  | ((with_reducible refine' isi_t_list ?h1 ?_); (case h1 => k_subL))
  | ((with_reducible refine' isi_t_str ?h1 ?_); (case h1 => k_subL))
  | ((with_reducible refine' isi_l_int ?h1 ?_); (case h1 => k_subL))
  | ((with_reducible refine' isi_l_bool ?h1 ?_); (case h1 => k_subL))
  | ((with_reducible refine' isi_l_tuple ?h1 ?_); (case h1 => k_subL))
  | ((with_reducible refine' isi_l_list ?h1 ?_); (case h1 => k_subL))
  | ((with_reducible refine' isi_l_str ?h1 ?_); (case h1 => k_subL))
  | ((with_reducible refine' c_I ?h1 ?_); (case h1 => k_caughtN0)))
local macro_rules | `(tactic| k_caughtN0) => `(tactic| first
  | (show _ ≠ (0 : Int); omega)
  | (show CDivN _ _; exact ⟨by omega, by omega⟩)
  | (show CMul _ _; first | exact .inl ⟨by omega, by omega⟩ | exact .inr ⟨by omega, by omega⟩)
  | (show CPow _ _; exact ⟨by decide, by decide, by decide⟩))
local macro_rules | `(tactic| k_places) => `(tactic| repeat (k_caughtB; try dsimp only [List.set]))
structure CF (K : PySem.W.Frag) : Prop where
  tt : True
def satZ (n top : Int) : Int := if n < 0 then 0 else if n > top then top else n
def clampZ (n : Int) : Int := if n < -999999 then -999999 else if n > 999999 then 999999 else n
def cellZ (ns : List Int) (k : Int) : Int := if k < ns.length then ns.getD k.toNat 0 else 0
def broughtZ (m f g : Int) : Int := m * (if f ≤ m ∧ m ≤ g then 1 else 0) + f * (if m < f then 1 else 0) + g * (if m > g then 1 else 0)
abbrev sp_clamp (_K : PySem.W.Frag) : Sp := Sp1 fun a H Q _ => ∃ n, a = .int n ∧ Q (.int (clampZ n)) H
abbrev sp_saturate (_K : PySem.W.Frag) : Sp := Sp2 fun a b H Q _ => ∃ n t, a = .int n ∧ b = .int t ∧ Q (.int (satZ n t)) H
abbrev sp_lw_cell (K : PySem.W.Frag) : Sp := Sp2 fun a b H Q _ => ∃ (p : Addr) (ns : List Int) (k : Int), a = .ref p ∧ b = .int k ∧ SqL K H p (ns.map V.int) ∧ 0 ≤ k ∧ Q (.int (cellZ ns k)) H
abbrev sp_lw_is_integer (_K : PySem.W.Frag) : Sp := Sp1 fun a H Q _ => ∃ n, a = .int n ∧ Q (.bl true) H
abbrev sp_lw_brought (_K : PySem.W.Frag) : Sp := Sp3 fun a b c H Q _ => ∃ m f g, a = .int m ∧ b = .int f ∧ c = .int g ∧ Q (.int (broughtZ m f g)) H
abbrev sp_lw_right (_K : PySem.W.Frag) : Sp := Sp2 fun a b H Q _ => ∃ m t, a = .int m ∧ b = .int t ∧ 0 ≤ t ∧ Q (.bl true) H
abbrev sp_law (K : PySem.W.Frag) : Sp := Sp1 fun a H Q _ => ∃ (p : Addr) (ns : List Int), a = .ref p ∧ SqL K H p (ns.map V.int) ∧ ns.length ≤ 63 ∧ ∀ H', Q (.bl true) H'
abbrev n_clamp : List Str := ["n"]
abbrev t_clamp (_K : PySem.W.Frag) : TS :=
    tSeq (tIfS (tTest (tOp rLt (tVar 0) (tC (.int (-999999))))) (tRet (tC (.int (-999999)))) (tNext))
    (tSeq (tIfS (tTest (tOp rGt (tVar 0) (tC (.int 999999)))) (tRet (tC (.int 999999))) (tNext))
    (tRet (tVar 0)))

abbrev n_saturate : List Str := ["n", "top"]
abbrev t_saturate (_K : PySem.W.Frag) : TS :=
    tSeq (tIfS (tTest (tOp rLt (tVar 0) (tC (.int 0)))) (tRet (tC (.int 0))) (tNext))
    (tSeq (tIfS (tTest (tOp rGt (tVar 0) (tVar 1))) (tRet (tVar 1)) (tNext))
    (tRet (tVar 0)))

abbrev n_lw_cell : List Str := ["script", "k"]
abbrev t_lw_cell (K : PySem.W.Frag) : TS :=
    tSeq (tIfS (tTest (tOp rLt (tVar 1) (tCB (rLen K) (tCons (tVar 0) (tNil))))) (tRet (tOp (rIxL K) (tVar 0) (tVar 1))) (tNext))
    (tRet (tC (.int 0)))

abbrev n_lw_is_integer : List Str := ["got"]
abbrev t_lw_is_integer (K : PySem.W.Frag) : TS :=
    tRet (tAndV (tCB (rIsi K) (tCons (tVar 0) (tCons (tC (.ty "int")) (tNil)))) (tNotV (tCB (rIsi K) (tCons (tVar 0) (tCons (tC (.ty "bool")) (tNil))))))

abbrev n_lw_brought : List Str := ["m", "floor", "ceiling"]
abbrev t_lw_brought (_K : PySem.W.Frag) : TS :=
    tRet (tOp rAddI (tOp rAddI (tOp rMulI (tVar 0) (tCB rInt1 (tCons (tAndV (tOp rLe (tVar 1) (tVar 0)) (tOp rLe (tVar 0) (tVar 2))) (tNil)))) (tOp rMulI (tVar 1) (tCB rInt1 (tCons (tOp rLt (tVar 0) (tVar 1)) (tNil))))) (tOp rMulI (tVar 2) (tCB rInt1 (tCons (tOp rGt (tVar 0) (tVar 2)) (tNil)))))

abbrev n_lw_right : List Str := ["m", "top", "stored", "bounded"]
abbrev t_lw_right (K : PySem.W.Frag) : TS :=
    tSeq (tAsg (tCall (sp_saturate K) [] E0 (tCons (tVar 0) (tCons (tVar 1) (tNil)))) (gName 2))
    (tSeq (tAsg (tCall (sp_clamp K) [] E0 (tCons (tVar 0) (tNil))) (gName 3))
    (tSeq (tIfS (tOr (tNot (tB (tCall (sp_lw_is_integer K) [] E0 (tCons (tVar 2) (tNil))))) (tNot (tB (tCall (sp_lw_is_integer K) [] E0 (tCons (tVar 3) (tNil)))))) (tRet (tC (.bl false))) (tNext))
    (tRet (tAndV (tOp rEq (tVar 2) (tCall (sp_lw_brought K) [] E0 (tCons (tVar 0) (tCons (tC (.int 0)) (tCons (tVar 1) (tNil)))))) (tOp rEq (tVar 3) (tCall (sp_lw_brought K) [] E0 (tCons (tVar 0) (tCons (tUn rNegI (tC (.int 999999))) (tCons (tC (.int 999999)) (tNil))))))))))

abbrev n_law : List Str := ["script", "n", "great", "top", "row", "edge", "m"]
abbrev t_law (K : PySem.W.Frag) : TS :=
    tSeq (tAsg (tCall (sp_lw_cell K) [] E0 (tCons (tVar 0) (tCons (tC (.int 0)) (tNil)))) (gName 1))
    (tSeq (tAsg (tCall (sp_lw_cell K) [] E0 (tCons (tVar 0) (tCons (tC (.int 1)) (tNil)))) (gName 2))
    (Evl.tCut (tIfS (tTest (tOp rLt (tVar 2) (tC (.int 0)))) (tAsg (tOp rSubI (tUn rNegI (tC (.int 1))) (tVar 2)) (gName 2)) (tNext))
    (Evl.tCut (tIfS (tTest (tOp rEq (tOp rModN (tCB rInt1 (tCons (tCall (sp_lw_cell K) [] E0 (tCons (tVar 0) (tCons (tC (.int 2)) (tNil)))) (tNil))) (tC (.int 2))) (tC (.int 0)))) (tAsg (tOp rModN (tCB rInt1 (tCons (tVar 2) (tNil))) (tC (.int 1000))) (gName 2)) (tNext))
    (tSeq (tFor (iList K (tLst (tCons (tVar 2) (tCons (tOp rModN (tCB rInt1 (tCons (tCall (sp_lw_cell K) [] E0 (tCons (tVar 0) (tCons (tC (.int 3)) (tNil)))) (tNil))) (tC (.int 1000))) (tNil))))) (gName 3) (tSeq (tAsg (tLst (tCons (tVar 1) (tCons (tOp rMulI (tVar 1) (tC (.int 10))) (tCons (tUn rNegI (tVar 1)) (tCons (tOp rSubI (tOp rModN (tCB rInt1 (tCons (tVar 1) (tNil))) (tC (.int 2400001))) (tC (.int 1200000))) (tCons (tUn rNegI (tVar 3)) (tNil))))))) (gName 4))
    (tSeq (tFor (iList K (tLst (tCons (tC (.int 0)) (tCons (tVar 3) (tCons (tC (.int 999999)) (tCons (tUn rNegI (tC (.int 999999))) (tNil))))))) (gName 5) (tAsg (tOp rCat (tVar 4) (tLst (tCons (tOp rSubI (tVar 5) (tC (.int 1))) (tCons (tVar 5) (tCons (tOp rAddI (tVar 5) (tC (.int 1))) (tNil)))))) (gName 4)))
    (tFor (iList K (tVar 4)) (gName 6) (tIfS (tNot (tB (tCall (sp_lw_right K) [] E0 (tCons (tVar 6) (tCons (tVar 3) (tNil)))))) (tRet (tC (.bl false))) (tNext))))))
    (tRet (tCall (sp_lw_right K) [] E0 (tCons (tVar 1) (tCons (tVar 2) (tNil)))))))))

variable {K : PySem.W.Frag} {vs : List V} {H : Hp} {Q : VK} {E : XK}
theorem rd_clamp (C : CF K) (h : sp_clamp K vs H Q E) : t_clamp K { nx := fun _ H' => Q .non H', rt := Q } (start n_clamp vs) H := by
  obtain ⟨_, rfl, n, rfl, k⟩ := h
  show t_clamp K _ [some (.int n)] H
  k_places
  refine c_ite (fun h => ?_) (fun h => ?_) <;> k_places
  · exact q_int k (by grind [clampZ])
  · refine c_ite (fun h => ?_) (fun h => ?_) <;> k_places <;> exact q_int k (by grind [clampZ])
theorem rd_saturate (C : CF K) (h : sp_saturate K vs H Q E) : t_saturate K { nx := fun _ H' => Q .non H', rt := Q } (start n_saturate vs) H := by
  obtain ⟨_, _, rfl, n, t, rfl, rfl, k⟩ := h
  show t_saturate K _ [some (.int n), some (.int t)] H
  k_places
  refine c_ite (fun h => ?_) (fun h => ?_) <;> k_places
  · exact q_int k (by grind [satZ])
  · refine c_ite (fun h => ?_) (fun h => ?_) <;> k_places <;> exact q_int k (by grind [satZ])
theorem rd_lw_cell (C : CF K) (h : sp_lw_cell K vs H Q E) : t_lw_cell K { nx := fun _ H' => Q .non H', rt := Q } (start n_lw_cell vs) H := by
  obtain ⟨_, _, rfl, p, ns, i, rfl, rfl, hl, h0, k⟩ := h
  show t_lw_cell K _ [some (.ref p), some (.int i)] H
  k_places
  refine c_ite (fun h => ?_) (fun h => ?_) <;> k_places
  · rw [List.length_map] at h
    have e : atI (ns.map V.int) i = some (.int (cellZ ns i)) := by
      obtain ⟨j, rfl⟩ := Int.eq_ofNat_of_zero_le h0
      have hj : j < ns.length := by omega
      refine atI_nat ?_
      rw [List.getElem?_map, List.getElem?_eq_getElem hj]
      simp only [cellZ, Option.map_some]
      rw [if_pos (by omega)]
      simp [hj]
    refine c_ixL (by k_subL) e ?_
    exact k
  · rw [List.length_map] at h
    exact q_int k (by simp only [cellZ]; rw [if_neg h])
theorem rd_lw_is_integer (C : CF K) (h : sp_lw_is_integer K vs H Q E) : t_lw_is_integer K { nx := fun _ H' => Q .non H', rt := Q } (start n_lw_is_integer vs) H := by
  obtain ⟨_, rfl, n, rfl, k⟩ := h
  show t_lw_is_integer K _ [some (.int n)] H
  k_places
  exact k
theorem rd_lw_brought (C : CF K) (h : sp_lw_brought K vs H Q E) : t_lw_brought K { nx := fun _ H' => Q .non H', rt := Q } (start n_lw_brought vs) H := by
  obtain ⟨_, _, _, rfl, m, f, g, rfl, rfl, rfl, k⟩ := h
  show t_lw_brought K _ [some (.int m), some (.int f), some (.int g)] H
  k_places
  refine c_ite (fun h => ?_) (fun h => ?_) <;> k_places <;> (refine q_int k ?_; unfold broughtZ; grind)
variable {n m t f g : Int}
theorem u_clamp (k : Q (.int (clampZ n)) H) : sp_clamp K ([.int n] ++ []) H Q E := ⟨_, rfl, n, rfl, k⟩
theorem u_saturate (k : Q (.int (satZ n t)) H) : sp_saturate K ([.int n, .int t] ++ []) H Q E := ⟨_, _, rfl, n, t, rfl, rfl, k⟩
theorem u_is_integer (k : Q (.bl true) H) : sp_lw_is_integer K ([.int n] ++ []) H Q E := ⟨_, rfl, n, rfl, k⟩
theorem u_brought (k : Q (.int (broughtZ m f g)) H) : sp_lw_brought K ([.int m, .int f, .int g] ++ []) H Q E := ⟨_, _, _, rfl, m, f, g, rfl, rfl, rfl, k⟩
theorem u_right (h : 0 ≤ t) (k : Q (.bl true) H) : sp_lw_right K ([.int m, .int t] ++ []) H Q E := ⟨_, _, rfl, m, t, rfl, rfl, h, k⟩
theorem u_cell {p : Addr} {ns : List Int} {i : Int} (h : SqL K H p (ns.map V.int)) (h0 : 0 ≤ i) (k : Q (.int (cellZ ns i)) H) : sp_lw_cell K ([.ref p, .int i] ++ []) H Q E := ⟨_, _, rfl, p, ns, i, rfl, rfl, h, h0, k⟩
local macro_rules | `(tactic| k_caughtB) => `(tactic| with_reducible first | refine u_clamp ?_ | refine u_saturate ?_ | refine u_is_integer ?_ | refine u_brought ?_)
local macro_rules | `(tactic| k_caughtB) => `(tactic| ((with_reducible refine' u_right ?h1 ?_); (case h1 => omega)))
local macro_rules | `(tactic| k_caughtB) => `(tactic| ((with_reducible refine' u_cell ?h1 ?h2 ?_); (case h1 => k_subL); (case h2 => decide)))
theorem brought_sat {m t : Int} (h : 0 ≤ t) : satZ m t = broughtZ m 0 t := by
  unfold satZ broughtZ
  grind
theorem brought_clamp {m : Int} : clampZ m = broughtZ m (-999999) 999999 := by
  unfold clampZ broughtZ
  grind
theorem rd_lw_right (C : CF K) (h : sp_lw_right K vs H Q E) : t_lw_right K { nx := fun _ H' => Q .non H', rt := Q } (start n_lw_right vs) H := by
  obtain ⟨_, _, rfl, m, t, rfl, rfl, h0, k⟩ := h
  show t_lw_right K _ [some (.int m), some (.int t), none, none] H
  k_places
  rw [brought_sat h0, decide_eq_true rfl]
  k_places
  rw [brought_clamp, decide_eq_true rfl]
  exact k
theorem rd_law (C : CF K) (h : sp_law K vs H Q E) : t_law K { nx := fun _ H' => Q .non H', rt := Q } (start n_law vs) H := by
  obtain ⟨_, rfl, p, ns, rfl, hl, hn, k⟩ := h
  show t_law K _ [some (.ref p), none, none, none, none, none, none] H
  k_places
  generalize cellZ ns 0 = n
  refine cut (fun σ' H' => Same H H' ∧ ∃ g : Int, 0 ≤ g ∧ σ' = [some (.ref p), some (.int n), some (.int g), none, none, none, none]) ?_ ?_
  · k_places
    refine c_ite (fun h => ?_) (fun h => ?_) <;> k_places <;> exact ⟨Same.refl _, _, by omega, rfl⟩
  rintro _ H1 ⟨S1, g, hg, rfl⟩
  k_places
  refine cut (fun σ' H' => Same H H' ∧ ∃ g : Int, 0 ≤ g ∧ σ' = [some (.ref p), some (.int n), some (.int g), none, none, none, none]) ?_ ?_
  · k_places
    refine c_ite (fun h => ?_) (fun h => ?_) <;> k_places
    · exact ⟨S1, _, by rw [Int.fmod_eq_emod_of_nonneg _ (by decide)]; omega, rfl⟩
    · exact ⟨S1, _, hg, rfl⟩
  rintro _ H2 ⟨S2, g2, hg2, rfl⟩
  k_places
  have hx : 0 ≤ (cellZ ns 3).fmod 1000 := by rw [Int.fmod_eq_emod_of_nonneg _ (by decide)]; omega
  generalize (cellZ ns 3).fmod 1000 = x at *
  refine' fl_s ?hl (fun i σ' H' => ∃ a b c d, σ' = [some (.ref p), some (.int n), some (.int g2), a, b, c, d]) ⟨_, _, _, _, rfl⟩ ?_ ?_
  case hl => k_subL
  · rintro i y _ H4 hi S4 ⟨a, b, c, d, rfl⟩
    obtain ⟨t, ht, rfl⟩ : ∃ t : Int, 0 ≤ t ∧ y = .int t := by
      match i, hi with
      | 0, hi => exact ⟨g2, hg2, by simpa using hi.symm⟩
      | 1, hi => exact ⟨x, hx, by simpa using hi.symm⟩
    k_places
    refine' fl_s ?hl (fun i σ' H' => ∃ q c zs, zs.length = 5 + 3 * i ∧ H' q = some (.lst (zs.map V.int)) ∧ σ' = [some (.ref p), some (.int n), some (.int g2), some (.int t), some (.ref q), c, d]) ⟨_, _, [_, _, _, _, _], rfl, ?h2, rfl⟩ ?_ ?_
    case hl => k_subL
    case h2 => k_subL
    · rintro i y _ H6 hi S6 ⟨q, c, zs, hz, hq, rfl⟩
      obtain ⟨e, rfl⟩ : ∃ e : Int, y = .int e := by
        match i, hi with
        | 0, hi => exact ⟨_, by simpa using hi.symm⟩
        | 1, hi => exact ⟨_, by simpa using hi.symm⟩
        | 2, hi => exact ⟨_, by simpa using hi.symm⟩
        | 3, hi => exact ⟨_, by simpa using hi.symm⟩
      have hi4 : i < 4 := (List.getElem?_eq_some_iff.mp hi).1
      k_places
      refine ⟨by k_offL, _, _, zs ++ [e - 1, e, e + 1], by simp; omega, ?_, rfl⟩
      rw [List.map_append]
      assumption
    · rintro _ H6 S6 ⟨q, c, zs, hz, hq, rfl⟩
      k_places
      refine' fl_s ?hl (fun i σ' H' => ∃ d, σ' = [some (.ref p), some (.int n), some (.int g2), some (.int t), some (.ref q), c, d]) ⟨_, rfl⟩ ?_ ?_
      case hl => k_subL
      · rintro i y _ H7 hi S7 ⟨d, rfl⟩
        obtain ⟨z, -, rfl⟩ := List.mem_map.mp (List.mem_of_getElem? hi)
        k_places
        exact ⟨by k_offL, _, rfl⟩
      · rintro _ H7 S7 ⟨d, rfl⟩
        k_places
        exact ⟨by k_offL, _, _, _, _, rfl⟩
  · rintro _ H5 S5 ⟨a, b, c, d, rfl⟩
    k_places
    exact k _
end R
namespace R
open PySem PySem.Spec PyProof.Rows L2
/-! ### the head's hook, one more Bool -/
open He in
def obsRG (n : Nat) (fa : List Fa) (fn : List DefD) (xb : PySem.W.Frag → Bool) (g : Addr → Option Obj) : AlD × Bool := (obsD fa fn (frG g (asD g n)), xb (frG g (asD g n)))
open He in
def hookR (n : Nat) (fa : List Fa) (fn : List DefD) (xb : PySem.W.Frag → Bool) : PySem.W.Hook where
  α := AlD × Bool
  obs := fun s => obsRG n fa fn xb s.heap.get?
  val := fun _ => (valD fn, true)
  says := fun _ h => ∃ K : PySem.W.Frag, K.In h ∧ SaysD fa fn K ∧ xb K = true
  of := fun _ _ e => ⟨_, frG_in, congrArg Prod.fst e, congrArg Prod.snd e⟩
  keeps := fun _ _ _ ⟨K, hK, c⟩ k => ⟨K, PySem.W.Frag.In.keeps hK k, c⟩
theorem obsRG_eq {n : Nat} {fa : List He.Fa} {fn : List He.DefD} {xb : PySem.W.Frag → Bool} {g : Addr → Option Obj} {s : Shared} (h : ∀ a, g a = s.heap.get? a) : obsRG n fa fn xb g = (hookR n fa fn xb).obs s := by
  have e : g = s.heap.get? := funext h
  rw [e] <;> rfl
end R
namespace R
open PySem PySem.Spec PyProof.Rows L2
def top (i : Nat) : Stmt := PySem.Challenge.pw_rungstead_k00_clamp_and_saturate.main.body.getD i (.Pass ⟨0, 0, 0, 0⟩)
abbrev s_clamp : Stmt := top 3
theorem sc_clamp : FnScope n_clamp ["n"] (defScope s_clamp) := ⟨rfl, rfl, rfl, by decide +kernel, rfl, by decide +kernel, by decide +kernel⟩

abbrev s_saturate : Stmt := top 4
theorem sc_saturate : FnScope n_saturate ["n", "top"] (defScope s_saturate) := ⟨rfl, rfl, rfl, by decide +kernel, rfl, by decide +kernel, by decide +kernel⟩

abbrev s_lw_cell : Stmt := top 6
theorem sc_lw_cell : FnScope n_lw_cell ["script", "k"] (defScope s_lw_cell) := ⟨rfl, rfl, rfl, by decide +kernel, rfl, by decide +kernel, by decide +kernel⟩

abbrev s_lw_is_integer : Stmt := top 7
theorem sc_lw_is_integer : FnScope n_lw_is_integer ["got"] (defScope s_lw_is_integer) := ⟨rfl, rfl, rfl, by decide +kernel, rfl, by decide +kernel, by decide +kernel⟩

abbrev s_lw_brought : Stmt := top 8
theorem sc_lw_brought : FnScope n_lw_brought ["m", "floor", "ceiling"] (defScope s_lw_brought) := ⟨rfl, rfl, rfl, by decide +kernel, rfl, by decide +kernel, by decide +kernel⟩

abbrev s_lw_right : Stmt := top 9
theorem sc_lw_right : FnScope n_lw_right ["m", "top"] (defScope s_lw_right) := ⟨rfl, rfl, rfl, by decide +kernel, rfl, by decide +kernel, by decide +kernel⟩

abbrev s_law : Stmt := top 10
theorem sc_law : FnScope n_law ["script"] (defScope s_law) := ⟨rfl, rfl, rfl, by decide +kernel, rfl, by decide +kernel, by decide +kernel⟩

abbrev d_clamp : He.DefD := ⟨("clamp", none), "clamp", "clamp", defArgs s_clamp, defBody s_clamp, defScope s_clamp, [], []⟩

abbrev d_saturate : He.DefD := ⟨("saturate", none), "saturate", "saturate", defArgs s_saturate, defBody s_saturate, defScope s_saturate, [], []⟩

abbrev d_lw_cell : He.DefD := ⟨("_law_cell", none), "_law_cell", "_law_cell", defArgs s_lw_cell, defBody s_lw_cell, defScope s_lw_cell, [], []⟩

abbrev d_lw_is_integer : He.DefD := ⟨("_law_is_integer", none), "_law_is_integer", "_law_is_integer", defArgs s_lw_is_integer, defBody s_lw_is_integer, defScope s_lw_is_integer, [], []⟩

abbrev d_lw_brought : He.DefD := ⟨("_law_brought", none), "_law_brought", "_law_brought", defArgs s_lw_brought, defBody s_lw_brought, defScope s_lw_brought, [], []⟩

abbrev d_lw_right : He.DefD := ⟨("_law_right", none), "_law_right", "_law_right", defArgs s_lw_right, defBody s_lw_right, defScope s_lw_right, [], []⟩

abbrev d_law : He.DefD := ⟨("law", none), "law", "law", defArgs s_law, defBody s_law, defScope s_law, [], []⟩

def fn : List He.DefD := [d_clamp, d_saturate, d_lw_cell, d_lw_is_integer, d_lw_brought, d_lw_right, d_law]
def fa : List He.Fa := [.int "LEAST" (-999999), .int "GREATEST" 999999, .free "len", .free "int", .free "isinstance", .free "bool", .glo "saturate", .glo "clamp", .glo "_law_is_integer", .glo "_law_brought", .glo "_law_cell", .glo "_law_right", .glo "law"]
def xb : PySem.W.Frag → Bool := fun _ => true
/-- what the top has left -/
structure Tx (K : PySem.W.Frag) (mg : Str → Option Value) : Prop where
  ex : ∃ h : Heap, K.In h ∧ h.Ns mainGlobals mg
  c : He.SaysD fa fn K
  x : xb K = true
section
variable {K : PySem.W.Frag} {mg : Str → Option Value}
theorem c_LEAST (T : Tx K mg) : ∃ t, mg "LEAST" = some (.int (-999999) t) := T.ex.elim fun _ e => He.int_ok e.1 e.2 (T.c.fact 0 rfl)
theorem c_GREATEST (T : Tx K mg) : ∃ t, mg "GREATEST" = some (.int 999999 t) := T.ex.elim fun _ e => He.int_ok e.1 e.2 (T.c.fact 1 rfl)
theorem b_len (T : Tx K mg) : mg "len" = none := T.ex.elim fun _ e => He.free_ok e.1 e.2 (T.c.fact 2 rfl)
theorem b_int (T : Tx K mg) : mg "int" = none := T.ex.elim fun _ e => He.free_ok e.1 e.2 (T.c.fact 3 rfl)
theorem b_isinstance (T : Tx K mg) : mg "isinstance" = none := T.ex.elim fun _ e => He.free_ok e.1 e.2 (T.c.fact 4 rfl)
theorem b_bool (T : Tx K mg) : mg "bool" = none := T.ex.elim fun _ e => He.free_ok e.1 e.2 (T.c.fact 5 rfl)
theorem g_saturate (T : Tx K mg) : mg "saturate" = some (.ref (He.ga K "saturate")) := T.ex.elim fun _ e => He.glo_ok e.1 e.2 (T.c.fact 6 rfl)
theorem g_clamp (T : Tx K mg) : mg "clamp" = some (.ref (He.ga K "clamp")) := T.ex.elim fun _ e => He.glo_ok e.1 e.2 (T.c.fact 7 rfl)
theorem g_lw_is_integer (T : Tx K mg) : mg "_law_is_integer" = some (.ref (He.ga K "_law_is_integer")) := T.ex.elim fun _ e => He.glo_ok e.1 e.2 (T.c.fact 8 rfl)
theorem g_lw_brought (T : Tx K mg) : mg "_law_brought" = some (.ref (He.ga K "_law_brought")) := T.ex.elim fun _ e => He.glo_ok e.1 e.2 (T.c.fact 9 rfl)
theorem g_lw_cell (T : Tx K mg) : mg "_law_cell" = some (.ref (He.ga K "_law_cell")) := T.ex.elim fun _ e => He.glo_ok e.1 e.2 (T.c.fact 10 rfl)
theorem g_lw_right (T : Tx K mg) : mg "_law_right" = some (.ref (He.ga K "_law_right")) := T.ex.elim fun _ e => He.glo_ok e.1 e.2 (T.c.fact 11 rfl)
theorem g_law (T : Tx K mg) : mg "law" = some (.ref (He.ga K "law")) := T.ex.elim fun _ e => He.glo_ok e.1 e.2 (T.c.fact 12 rfl)
noncomputable def fd_clamp (T : Tx K mg) : FuncData := (T.c.def_ 0 (d := d_clamp) rfl).choose
theorem F_clamp (T : Tx K mg) : FunD K "clamp" "clamp" (defArgs s_clamp) (defBody s_clamp) (defScope s_clamp) [] [] (He.fAd K d_clamp.at_) (fd_clamp T) := (T.c.def_ 0 (d := d_clamp) rfl).choose_spec
theorem B_clamp (T : Tx K mg) : Binds K (fd_clamp T) ["n"] [] := (F_clamp T).bindsN fun _ _ _ _ _ _ us hl => match us, hl with | [_], _ => rfl
noncomputable def fd_saturate (T : Tx K mg) : FuncData := (T.c.def_ 1 (d := d_saturate) rfl).choose
theorem F_saturate (T : Tx K mg) : FunD K "saturate" "saturate" (defArgs s_saturate) (defBody s_saturate) (defScope s_saturate) [] [] (He.fAd K d_saturate.at_) (fd_saturate T) := (T.c.def_ 1 (d := d_saturate) rfl).choose_spec
theorem B_saturate (T : Tx K mg) : Binds K (fd_saturate T) ["n", "top"] [] := (F_saturate T).bindsN fun _ _ _ _ _ _ us hl => match us, hl with | [_, _], _ => rfl
noncomputable def fd_lw_cell (T : Tx K mg) : FuncData := (T.c.def_ 2 (d := d_lw_cell) rfl).choose
theorem F_lw_cell (T : Tx K mg) : FunD K "_law_cell" "_law_cell" (defArgs s_lw_cell) (defBody s_lw_cell) (defScope s_lw_cell) [] [] (He.fAd K d_lw_cell.at_) (fd_lw_cell T) := (T.c.def_ 2 (d := d_lw_cell) rfl).choose_spec
theorem B_lw_cell (T : Tx K mg) : Binds K (fd_lw_cell T) ["script", "k"] [] := (F_lw_cell T).bindsN fun _ _ _ _ _ _ us hl => match us, hl with | [_, _], _ => rfl
noncomputable def fd_lw_is_integer (T : Tx K mg) : FuncData := (T.c.def_ 3 (d := d_lw_is_integer) rfl).choose
theorem F_lw_is_integer (T : Tx K mg) : FunD K "_law_is_integer" "_law_is_integer" (defArgs s_lw_is_integer) (defBody s_lw_is_integer) (defScope s_lw_is_integer) [] [] (He.fAd K d_lw_is_integer.at_) (fd_lw_is_integer T) := (T.c.def_ 3 (d := d_lw_is_integer) rfl).choose_spec
theorem B_lw_is_integer (T : Tx K mg) : Binds K (fd_lw_is_integer T) ["got"] [] := (F_lw_is_integer T).bindsN fun _ _ _ _ _ _ us hl => match us, hl with | [_], _ => rfl
noncomputable def fd_lw_brought (T : Tx K mg) : FuncData := (T.c.def_ 4 (d := d_lw_brought) rfl).choose
theorem F_lw_brought (T : Tx K mg) : FunD K "_law_brought" "_law_brought" (defArgs s_lw_brought) (defBody s_lw_brought) (defScope s_lw_brought) [] [] (He.fAd K d_lw_brought.at_) (fd_lw_brought T) := (T.c.def_ 4 (d := d_lw_brought) rfl).choose_spec
theorem B_lw_brought (T : Tx K mg) : Binds K (fd_lw_brought T) ["m", "floor", "ceiling"] [] := (F_lw_brought T).bindsN fun _ _ _ _ _ _ us hl => match us, hl with | [_, _, _], _ => rfl
noncomputable def fd_lw_right (T : Tx K mg) : FuncData := (T.c.def_ 5 (d := d_lw_right) rfl).choose
theorem F_lw_right (T : Tx K mg) : FunD K "_law_right" "_law_right" (defArgs s_lw_right) (defBody s_lw_right) (defScope s_lw_right) [] [] (He.fAd K d_lw_right.at_) (fd_lw_right T) := (T.c.def_ 5 (d := d_lw_right) rfl).choose_spec
theorem B_lw_right (T : Tx K mg) : Binds K (fd_lw_right T) ["m", "top"] [] := (F_lw_right T).bindsN fun _ _ _ _ _ _ us hl => match us, hl with | [_, _], _ => rfl
noncomputable def fd_law (T : Tx K mg) : FuncData := (T.c.def_ 6 (d := d_law) rfl).choose
theorem F_law (T : Tx K mg) : FunD K "law" "law" (defArgs s_law) (defBody s_law) (defScope s_law) [] [] (He.fAd K d_law.at_) (fd_law T) := (T.c.def_ 6 (d := d_law) rfl).choose_spec
theorem B_law (T : Tx K mg) : Binds K (fd_law T) ["script"] [] := (F_law T).bindsN fun _ _ _ _ _ _ us hl => match us, hl with | [_], _ => rfl
end
variable {P : Program} {w : World} {K : PySem.W.Frag} {mg : Str → Option Value} {base : Heap}
theorem Tx.cf (T : Tx K mg) : CF K := ⟨trivial⟩
theorem ok_clamp (T : Tx K mg) : FnOk P w K mg base CX0 1 (He.fAd K d_clamp.at_) (fd_clamp T) ["n"] (sp_clamp K) := by
  refine (F_clamp T).ok sc_clamp (fun vs H Q E h => Sp1.len h) (fun cdv A outer s H vs Q E hr h => ⟨t_clamp K, PSs.nox ?_, rd_clamp T.cf h⟩)
  exact pss_cons (ps_if (pt_cmpR op_lt (pv 0) (pe_globI rfl (c_LEAST T)) (nomark _)) (pss_one (ps_ret (pe_globI rfl (c_LEAST T)))) (pss_nil))
    (pss_cons (ps_if (pt_cmpR op_gt (pv 0) (pe_globI rfl (c_GREATEST T)) (nomark _)) (pss_one (ps_ret (pe_globI rfl (c_GREATEST T)))) (pss_nil))
    (pss_one (ps_ret (pv 0))))

theorem ok_saturate (T : Tx K mg) : FnOk P w K mg base CX0 1 (He.fAd K d_saturate.at_) (fd_saturate T) ["n", "top"] (sp_saturate K) := by
  refine (F_saturate T).ok sc_saturate (fun vs H Q E h => Sp2.len h) (fun cdv A outer s H vs Q E hr h => ⟨t_saturate K, PSs.nox ?_, rd_saturate T.cf h⟩)
  exact pss_cons (ps_if (pt_cmpR op_lt (pv 0) (pe_int) (nomark _)) (pss_one (ps_ret (pe_int))) (pss_nil))
    (pss_cons (ps_if (pt_cmpR op_gt (pv 0) (pv 1) (nomark _)) (pss_one (ps_ret (pv 1))) (pss_nil))
    (pss_one (ps_ret (pv 0))))

theorem ok_lw_cell (T : Tx K mg) : FnOk P w K mg base CX0 1 (He.fAd K d_lw_cell.at_) (fd_lw_cell T) ["script", "k"] (sp_lw_cell K) := by
  refine (F_lw_cell T).ok sc_lw_cell (fun vs H Q E h => Sp2.len h) (fun cdv A outer s H vs Q E hr h => ⟨t_lw_cell K, PSs.nox ?_, rd_lw_cell T.cf h⟩)
  exact pss_cons (ps_if (pt_cmpR op_lt (pv 1) (pe_callB call_len rfl (b_len T) bt_len (pa_cons (pv 0) (pa_nil))) (nomark _)) (pss_one (ps_ret (pe_ix ix_list (pv 0) (pv 1) (fun _ _ => rfl)))) (pss_nil))
    (pss_one (ps_ret (pe_int)))

theorem ok_lw_is_integer (T : Tx K mg) : FnOk P w K mg base CX0 1 (He.fAd K d_lw_is_integer.at_) (fd_lw_is_integer T) ["got"] (sp_lw_is_integer K) := by
  refine (F_lw_is_integer T).ok sc_lw_is_integer (fun vs H Q E h => Sp1.len h) (fun cdv A outer s H vs Q E hr h => ⟨t_lw_is_integer K, PSs.nox ?_, rd_lw_is_integer T.cf h⟩)
  exact pss_one (ps_ret (pe_and (pe_callB call_isi rfl (b_isinstance T) bt_isinstance (pa_cons (pv 0) (pa_cons (pe_bltn rfl (b_int T) bt_int rfl) (pa_nil)))) (pe_one (pe_not (pe_callB call_isi rfl (b_isinstance T) bt_isinstance (pa_cons (pv 0) (pa_cons (pe_bltn rfl (b_bool T) bt_bool rfl) (pa_nil))))))))

theorem ok_lw_brought (T : Tx K mg) : FnOk P w K mg base CX0 1 (He.fAd K d_lw_brought.at_) (fd_lw_brought T) ["m", "floor", "ceiling"] (sp_lw_brought K) := by
  refine (F_lw_brought T).ok sc_lw_brought (fun vs H Q E h => Sp3.len h) (fun cdv A outer s H vs Q E hr h => ⟨t_lw_brought K, PSs.nox ?_, rd_lw_brought T.cf h⟩)
  exact pss_one (ps_ret (pe_op op_add (pe_op op_add (pe_op op_mul (pv 0) (pe_callTy call_int1 rfl (b_int T) bt_int (pa_cons (pe_and (pe_cmpR op_le (pv 1) (pv 0) (nomark _)) (pe_one (pe_cmpR op_le (pv 0) (pv 2) (nomark _)))) (pa_nil)))) (pe_op op_mul (pv 1) (pe_callTy call_int1 rfl (b_int T) bt_int (pa_cons (pe_cmpR op_lt (pv 0) (pv 1) (nomark _)) (pa_nil))))) (pe_op op_mul (pv 2) (pe_callTy call_int1 rfl (b_int T) bt_int (pa_cons (pe_cmpR op_gt (pv 0) (pv 2) (nomark _)) (pa_nil))))))

theorem ok_lw_right (T : Tx K mg) : FnOk P w K mg base CX0 2 (He.fAd K d_lw_right.at_) (fd_lw_right T) ["m", "top"] (sp_lw_right K) := by
  refine (F_lw_right T).ok sc_lw_right (fun vs H Q E h => Sp2.len h) (fun cdv A outer s H vs Q E hr h => ⟨t_lw_right K, PSs.nox ?_, rd_lw_right T.cf h⟩)
  exact pss_cons (ps_set (i := 2) sc_lw_right.nd rfl (Or.inl rfl) (pe_call (ok_saturate T) (hr.mono (by decide)) rfl (g_saturate T) (F_saturate T).kp (B_saturate T) .nil pass0 (pa_cons (pv 0) (pa_cons (pv 1) (pa_nil)))))
    (pss_cons (ps_set (i := 3) sc_lw_right.nd rfl (Or.inl rfl) (pe_call (ok_clamp T) (hr.mono (by decide)) rfl (g_clamp T) (F_clamp T).kp (B_clamp T) .nil pass0 (pa_cons (pv 0) (pa_nil))))
    (pss_cons (ps_if (PW.pt (pw_or (pt_not (pt_val (pe_call (ok_lw_is_integer T) (hr.mono (by decide)) rfl (g_lw_is_integer T) (F_lw_is_integer T).kp (B_lw_is_integer T) .nil pass0 (pa_cons (pv 2) (pa_nil))))) (pw_or1 (pt_not (pt_val (pe_call (ok_lw_is_integer T) (hr.mono (by decide)) rfl (g_lw_is_integer T) (F_lw_is_integer T).kp (B_lw_is_integer T) .nil pass0 (pa_cons (pv 3) (pa_nil)))))))) (pss_one (ps_ret (pe_bl))) (pss_nil))
    (pss_one (ps_ret (pe_and (pe_cmpR op_eq (pv 2) (pe_call (ok_lw_brought T) (hr.mono (by decide)) rfl (g_lw_brought T) (F_lw_brought T).kp (B_lw_brought T) .nil pass0 (pa_cons (pv 0) (pa_cons (pe_int) (pa_cons (pv 1) (pa_nil))))) (nomark _)) (pe_one (pe_cmpR op_eq (pv 3) (pe_call (ok_lw_brought T) (hr.mono (by decide)) rfl (g_lw_brought T) (F_lw_brought T).kp (B_lw_brought T) .nil pass0 (pa_cons (pv 0) (pa_cons (pe_un un_neg (pe_int)) (pa_cons (pe_int) (pa_nil))))) (nomark _))))))))

theorem ok_law (T : Tx K mg) : FnOk P w K mg base CX0 3 (He.fAd K d_law.at_) (fd_law T) ["script"] (sp_law K) := by
  refine (F_law T).ok sc_law (fun vs H Q E h => Sp1.len h) (fun cdv A outer s H vs Q E hr h => ⟨t_law K, PSs.nox ?_, rd_law T.cf h⟩)
  exact pss_cons (ps_set (i := 1) sc_law.nd rfl (Or.inl rfl) (pe_call (ok_lw_cell T) (hr.mono (by decide)) rfl (g_lw_cell T) (F_lw_cell T).kp (B_lw_cell T) .nil pass0 (pa_cons (pv 0) (pa_cons (pe_int) (pa_nil)))))
    (pss_cons (ps_set (i := 2) sc_law.nd rfl (Or.inl rfl) (pe_call (ok_lw_cell T) (hr.mono (by decide)) rfl (g_lw_cell T) (F_lw_cell T).kp (B_lw_cell T) .nil pass0 (pa_cons (pv 0) (pa_cons (pe_int) (pa_nil)))))
    (Evl.pss_cut (ps_if (pt_cmpR op_lt (pv 2) (pe_int) (nomark _)) (pss_one (ps_set (i := 2) sc_law.nd rfl (Or.inl rfl) (pe_op op_sub (pe_un un_neg (pe_int)) (pv 2)))) (pss_nil))
    (Evl.pss_cut (ps_if (pt_cmpR op_eq (pe_op op_modN (pe_callTy call_int1 rfl (b_int T) bt_int (pa_cons (pe_call (ok_lw_cell T) (hr.mono (by decide)) rfl (g_lw_cell T) (F_lw_cell T).kp (B_lw_cell T) .nil pass0 (pa_cons (pv 0) (pa_cons (pe_int) (pa_nil)))) (pa_nil))) (pe_int)) (pe_int) (nomark _)) (pss_one (ps_set (i := 2) sc_law.nd rfl (Or.inl rfl) (pe_op op_modN (pe_callTy call_int1 rfl (b_int T) bt_int (pa_cons (pv 2) (pa_nil))) (pe_int)))) (pss_nil))
    (pss_cons (ps_for PassesOwn.never rfl (pi_list (pe_lst (pa_cons (pv 2) (pa_cons (pe_op op_modN (pe_callTy call_int1 rfl (b_int T) bt_int (pa_cons (pe_call (ok_lw_cell T) (hr.mono (by decide)) rfl (g_lw_cell T) (F_lw_cell T).kp (B_lw_cell T) .nil pass0 (pa_cons (pv 0) (pa_cons (pe_int) (pa_nil)))) (pa_nil))) (pe_int)) (pa_nil))))) (pg_name (i := 3) sc_law.nd rfl (Or.inl rfl)) (pss_cons (ps_set (i := 4) sc_law.nd rfl (Or.inl rfl) (pe_lst (pa_cons (pv 1) (pa_cons (pe_op op_mul (pv 1) (pe_int)) (pa_cons (pe_un un_neg (pv 1)) (pa_cons (pe_op op_sub (pe_op op_modN (pe_callTy call_int1 rfl (b_int T) bt_int (pa_cons (pv 1) (pa_nil))) (pe_int)) (pe_int)) (pa_cons (pe_un un_neg (pv 3)) (pa_nil))))))))
    (pss_cons (ps_for PassesOwn.never rfl (pi_list (pe_lst (pa_cons (pe_int) (pa_cons (pv 3) (pa_cons (pe_int) (pa_cons (pe_un un_neg (pe_int)) (pa_nil))))))) (pg_name (i := 5) sc_law.nd rfl (Or.inl rfl)) (pss_one (ps_set (i := 4) sc_law.nd rfl (Or.inl rfl) (pe_op op_cat (pv 4) (pe_lst (pa_cons (pe_op op_sub (pv 5) (pe_int)) (pa_cons (pv 5) (pa_cons (pe_op op_add (pv 5) (pe_int)) (pa_nil)))))))))
    (pss_one (ps_for PassesOwn.never rfl (pi_list (pv 4)) (pg_name (i := 6) sc_law.nd rfl (Or.inl rfl)) (pss_one (ps_if (pt_not (pt_val (pe_call (ok_lw_right T) (hr.mono (by decide)) rfl (g_lw_right T) (F_lw_right T).kp (B_lw_right T) .nil pass0 (pa_cons (pv 6) (pa_cons (pv 3) (pa_nil)))))) (pss_one (ps_ret (pe_bl))) (pss_nil))))))))
    (pss_one (ps_ret (pe_call (ok_lw_right T) (hr.mono (by decide)) rfl (g_lw_right T) (F_lw_right T).kp (B_lw_right T) .nil pass0 (pa_cons (pv 1) (pa_cons (pv 2) (pa_nil))))))))))

def obR (s : PySem.W.SharedT) : He.AlD × Bool := obsRG 4 fa fn xb (HandSHeadRun.getT s)
abbrev hk : PySem.W.Hook := hookR 4 fa fn xb
theorem obR_eq (s : PySem.W.SharedT) : obR s = hk.obs s.abs := obsRG_eq (HandSHeadRun.getT_eq s)
abbrev RR : PySem.W.OpenRow := PySem.W.OpenLaw.row PySem.Challenge.rw_rungstead_k00_clamp_and_saturate

def nms : List Str := ["GREATEST", "LEAST", "clamp", "saturate", "_law_cell", "_law_is_integer", "_law_brought", "_law_right"]
theorem run (w : World) : HandSHeadRun.RunEq RR (PySem.W.view RR.prog [10]) hk obR 600 nms w := by
  intro os
  kernel_rfl
theorem facts {P : Program} {w : World} {K : PySem.W.Frag} {h : Heap} {mg : Str → Option Value} {f : Addr} (X : K.In h) (G : h.Ns mainGlobals mg) (hfa : mg ("law" : Str) = some (.ref f)) (c : He.SaysD fa fn K) (hx : xb K = true) :
    ∃ fd : FuncData, (∀ (s : Shared) (v : Value), BindsTo s fd ⟨[v], []⟩ [("script", v)]) ∧ ∀ base : Heap, K.In base → base.Ns mainGlobals mg → FnOk P w K mg base CX0 3 f fd ["script"] (sp_law K) := by
  have T : Tx K mg := ⟨⟨h, X, G⟩, c, hx⟩
  have e := hfa.symm.trans (g_law T)
  cases e
  have b := FunD.bindsA (ps := ["script"]) (F_law T) fun _ _ _ _ _ _ us hl => match us, hl with | [_], _ => rfl
  exact ⟨fd_law T, fun s v => b s [v] rfl, fun base _ _ => ok_law T⟩
end R
open PySem PySem.W PySem.Calls PyProof.Rows
set_option maxHeartbeats 0
theorem PySem.Challenge.cw_rungstead_k00_clamp_and_saturate_holds : PySem.Challenge.rw_rungstead_k00_clamp_and_saturate.Holds := by
  w_on; o_law
  refine HandSHeadRun.head_any (r := OpenLaw.row PySem.Challenge.rw_rungstead_k00_clamp_and_saturate) (q := view (OpenLaw.row PySem.Challenge.rw_rungstead_k00_clamp_and_saturate).prog [10]) (H := R.hk) (ob := R.obR) (M := 600) (loose := R.nms) (d := HandSHeadRun.topDef (OpenLaw.row PySem.Challenge.rw_rungstead_k00_clamp_and_saturate).prog 10) (kwd := []) R.obR_eq
    (by kernel_rfl) (fun s => by kernel_rfl) R.run (by kernel_rfl) (by kernel_rfl) (by kernel_rfl) (by rfl) (by first | assumption | decide +kernel) (by decide +kernel) ⟨rfl, rfl, rfl, rfl, rfl, by decide +kernel⟩ ?hw ?hc
  case hw => w_witness2
  case hc =>
    refine L2.walk_ofE (l := PySem.Challenge.rw_rungstead_k00_clamp_and_saturate) (n := 63) (k := 3) (x := "script") (CX := L2.CX0) rfl (by decide) (by kernel_rfl) ⟨rfl, by decide, by decide⟩ ?F (fun _ _ _ _ z => z)
    intro w mg fa h Y G hmg0
    obtain ⟨K, KX, c, hx⟩ := Y
    have hmg : mg ("law" : PySem.Str) = some (.ref fa) := by
      have e : (HandSHeadRun.topDef (OpenLaw.row PySem.Challenge.rw_rungstead_k00_clamp_and_saturate).prog 10).name = ("law" : PySem.Str) := by kernel_rfl
      rw [← e]
      exact hmg0
    obtain ⟨fd, hb, hF⟩ := R.facts (P := (PySem.Challenge.rw_rungstead_k00_clamp_and_saturate).prog) (w := w) KX G hmg c hx
    exact ⟨K, fd, R.sp_law K, KX, hb, fun H a ns hl _ hS => ⟨.ref a, rfl, a, ns, rfl, hS, hl, fun _ => rfl⟩, hF⟩
#print axioms PySem.Challenge.cw_rungstead_k00_clamp_and_saturate_holds
