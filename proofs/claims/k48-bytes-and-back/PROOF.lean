import PyProof.Rows.All
import Wide.All
import OpenK.AllK
import Wide.FinOn
import Lean
import HandS.ForMost
import HandS.ForExc
import HandS.More
import HandS.Flow
import HandS.Defaults
import HandS.IsInst
import HandS.SortInts
import HandS.Evl
import HandS.Head0
import HandS.Head1
import HandS.Head2
import HandS.HeadEnd
import HandS.HeadHook1
import HandS.HeadHook2
import HandS.HeadHook3
import HandS.DictComp
import HandS.Zip
import HandS.TupAny
import KE.KIndexOf
import PySem.Challenge.RW_rungstead_k48_bytes_and_back
set_option Elab.async false
set_option linter.all false
set_option maxRecDepth 100000
set_option maxHeartbeats 4000000
set_option Elab.async false
set_option linter.all false
set_option maxRecDepth 100000
set_option maxHeartbeats 4000000
namespace R
open PySem PySem.Spec PyProof.Rows L2
/-! ### names of the readings' operators -/
abbrev rAddI : R2 := rI0 fun i j => .int (i + j)
abbrev rSubI : R2 := rI0 fun i j => .int (i - j)
abbrev rMulI : R2 := rI CMul fun i j => .int (i * j)
abbrev rModN : R2 := rI (fun _ j => j ≠ 0) fun i j => .int (i.fmod j)
abbrev rDivN : R2 := rI CDivN fun i j => .int (i.fdiv j)
abbrev rPowI : R2 := rI CPow fun i j => .int (i ^ j.toNat)
abbrev rNegI : V → Hp → VK → Prop := rU fun i => .int (-i)
abbrev rLt : R2 := rI0 fun i j => .bl (decide (i < j))
abbrev rLe : R2 := rI0 fun i j => .bl (decide (i ≤ j))
abbrev rGt : R2 := rI0 fun i j => .bl (decide (j < i))
abbrev rGe : R2 := rI0 fun i j => .bl (decide (j ≤ i))
def rIsN : R2 := fun x y H Q => y = .non ∧ Q (.bl (decide (x = .non))) H
def rNotN : R2 := fun x y H Q => y = .non ∧ Q (.bl (!decide (x = .non))) H
def rAddS : R2 := fun x y H Q => ∃ i j, x = .str i ∧ y = .str j ∧ i.length + j.length ≤ sizeLine ∧ Q (.str (i ++ j)) H
def rInSg : R2 := fun x y H Q => ∃ (c : Nat) (z : Str), x = .str ⟨#[c]⟩ ∧ y = .str z ∧ Q (.bl (decide (c ∈ z.cps.toList))) H
def rNotInSg : R2 := fun x y H Q => ∃ (c : Nat) (z : Str), x = .str ⟨#[c]⟩ ∧ y = .str z ∧ Q (.bl (!decide (c ∈ z.cps.toList))) H
def rInt1 : List V → Hp → VK → Prop := fun xs H Q => (∃ i, xs = [.int i] ∧ Q (.int i) H) ∨ ∃ k, xs = [.bl k] ∧ Q (.int (if k then 1 else 0)) H
def rBool1 : List V → Hp → VK → Prop := fun xs H Q => (∃ i, xs = [.int i] ∧ Q (.bl (i != 0)) H) ∨ ∃ k, xs = [.bl k] ∧ Q (.bl k) H
def rStr1 : List V → Hp → VK → Prop := fun xs H Q => ∃ i, xs = [.int i] ∧ i.natAbs.log2 < 1920 ∧ Q (.str (toString i)) H
def rAbs1 : List V → Hp → VK → Prop := fun xs H Q => ∃ i, xs = [.int i] ∧ Q (.int (if i < 0 then -i else i)) H
def rMax2 : List V → Hp → VK → Prop := fun xs H Q => ∃ i j, xs = [.int i, .int j] ∧ Q (.int (if j > i then j else i)) H
def rMin2 : List V → Hp → VK → Prop := fun xs H Q => ∃ i j, xs = [.int i, .int j] ∧ Q (.int (if j < i then j else i)) H
def tTru (K : PySem.W.Frag) (ta : TE) : TT := fun σ H Q => ta σ H fun x H' => ∃ k, TruV K x H' k ∧ Q k H'
theorem bt_len : bootBuiltins "len" = some (.builtin "len") := PySem.boot_len
theorem bt_int : bootBuiltins "int" = some (.type "int") := by decide +kernel
theorem bt_str : bootBuiltins "str" = some (.type "str") := by decide +kernel
theorem bt_bool : bootBuiltins "bool" = some (.type "bool") := by decide +kernel
theorem bt_list : bootBuiltins "list" = some (.type "list") := by decide +kernel
theorem bt_tuple : bootBuiltins "tuple" = some (.type "tuple") := by decide +kernel
theorem bt_dict : bootBuiltins "dict" = some (.type "dict") := by decide +kernel
theorem bt_abs : bootBuiltins "abs" = some (.builtin "abs") := by decide +kernel
theorem bt_min : bootBuiltins "min" = some (.builtin "min") := by decide +kernel
theorem bt_max : bootBuiltins "max" = some (.builtin "max") := by decide +kernel
theorem bt_sum : bootBuiltins "sum" = some (.builtin "sum") := by decide +kernel
theorem bt_all : bootBuiltins "all" = some (.builtin "all") := by decide +kernel
theorem bt_any : bootBuiltins "any" = some (.builtin "any") := by decide +kernel
theorem bt_isinstance : bootBuiltins "isinstance" = some (.builtin "isinstance") := by decide +kernel
theorem bt_sorted : bootBuiltins "sorted" = some (.builtin "sorted") := by decide +kernel
theorem bt_ord : bootBuiltins "ord" = some (.builtin "ord") := by decide +kernel
theorem bt_chr : bootBuiltins "chr" = some (.builtin "chr") := by decide +kernel
section
variable {X : Cx} {x : Str} {i : Int} {z : Str} {pos : Pos}
theorem pe_globI (hg : Gl X x) (h : ∃ t, X.mg x = some (.int i t)) (hd : (x == ("__debug__" : Str)) = false := by decide) : PE X (.Name x pos) (tC (.int i)) :=
  h.elim fun t e => pe_glob hg e ⟨t, rfl⟩ hd
theorem pe_globS (hg : Gl X x) (h : ∃ t, X.mg x = some (.str z t)) (hd : (x == ("__debug__" : Str)) = false := by decide) : PE X (.Name x pos) (tC (.str z)) :=
  h.elim fun t e => pe_glob hg e ⟨t, rfl⟩ hd
end
/-! ### written texts -/
theorem str_lit {a b : String} : (Str.ofString a = Str.ofString b) = (a = b) := by
  refine propext ⟨fun h => ?_, fun h => h ▸ rfl⟩
  rw [Str.ofString_eq_toList, Str.ofString_eq_toList] at h
  have h1 : a.toList.map Char.toNat = b.toList.map Char.toNat := by simpa using h
  have h2 : a.toList = b.toList := (List.map_inj_right fun x y e => Char.toNat_inj.mp e).mp h1
  exact String.toList_inj.mp h2
/-! ### promises by the number of arguments -/
def Sp0 (f : Hp → VK → XK → Prop) : Sp := fun vs H Q E => vs = [] ∧ f H Q E
def Sp1 (f : V → Hp → VK → XK → Prop) : Sp := fun vs H Q E => ∃ a, vs = [a] ∧ f a H Q E
def Sp2 (f : V → V → Hp → VK → XK → Prop) : Sp := fun vs H Q E => ∃ a b, vs = [a, b] ∧ f a b H Q E
def Sp3 (f : V → V → V → Hp → VK → XK → Prop) : Sp := fun vs H Q E => ∃ a b c, vs = [a, b, c] ∧ f a b c H Q E
def Sp4 (f : V → V → V → V → Hp → VK → XK → Prop) : Sp := fun vs H Q E => ∃ a b c d, vs = [a, b, c, d] ∧ f a b c d H Q E
def Sp5 (f : V → V → V → V → V → Hp → VK → XK → Prop) : Sp := fun vs H Q E => ∃ a b c d e, vs = [a, b, c, d, e] ∧ f a b c d e H Q E
def Sp6 (f : V → V → V → V → V → V → Hp → VK → XK → Prop) : Sp := fun vs H Q E => ∃ a b c d e g, vs = [a, b, c, d, e, g] ∧ f a b c d e g H Q E
section
variable {vs : List V} {H : Hp} {Q : VK} {E : XK}
theorem Sp0.len {f} (h : Sp0 f vs H Q E) : vs.length = 0 := by obtain ⟨rfl, _⟩ := h; rfl
theorem Sp1.len {f} (h : Sp1 f vs H Q E) : vs.length = 1 := by obtain ⟨_, rfl, _⟩ := h; rfl
theorem Sp2.len {f} (h : Sp2 f vs H Q E) : vs.length = 2 := by obtain ⟨_, _, rfl, _⟩ := h; rfl
theorem Sp3.len {f} (h : Sp3 f vs H Q E) : vs.length = 3 := by obtain ⟨_, _, _, rfl, _⟩ := h; rfl
theorem Sp4.len {f} (h : Sp4 f vs H Q E) : vs.length = 4 := by obtain ⟨_, _, _, _, rfl, _⟩ := h; rfl
theorem Sp5.len {f} (h : Sp5 f vs H Q E) : vs.length = 5 := by obtain ⟨_, _, _, _, _, rfl, _⟩ := h; rfl
theorem Sp6.len {f} (h : Sp6 f vs H Q E) : vs.length = 6 := by obtain ⟨_, _, _, _, _, _, rfl, _⟩ := h; rfl
theorem c_sp0 {f : Hp → VK → XK → Prop} (h : f H Q E) : Sp0 f ([] ++ []) H Q E := ⟨rfl, h⟩
theorem c_sp1 {f : V → Hp → VK → XK → Prop} {a} (h : f a H Q E) : Sp1 f ([a] ++ []) H Q E := ⟨a, rfl, h⟩
theorem c_sp2 {f : V → V → Hp → VK → XK → Prop} {a b} (h : f a b H Q E) : Sp2 f ([a, b] ++ []) H Q E := ⟨a, b, rfl, h⟩
theorem c_sp3 {f : V → V → V → Hp → VK → XK → Prop} {a b c} (h : f a b c H Q E) : Sp3 f ([a, b, c] ++ []) H Q E := ⟨a, b, c, rfl, h⟩
theorem c_sp4 {f : V → V → V → V → Hp → VK → XK → Prop} {a b c d} (h : f a b c d H Q E) : Sp4 f ([a, b, c, d] ++ []) H Q E := ⟨a, b, c, d, rfl, h⟩
theorem c_sp5 {f : V → V → V → V → V → Hp → VK → XK → Prop} {a b c d e} (h : f a b c d e H Q E) : Sp5 f ([a, b, c, d, e] ++ []) H Q E := ⟨a, b, c, d, e, rfl, h⟩
theorem c_sp6 {f : V → V → V → V → V → V → Hp → VK → XK → Prop} {a b c d e g} (h : f a b c d e g H Q E) : Sp6 f ([a, b, c, d, e, g] ++ []) H Q E := ⟨a, b, c, d, e, g, rfl, h⟩
end
/-! ### heaps: what stays -/
/-- the very heap -/
def IsH (H H' : Hp) : Prop := H = H'
/-- what is new there was new here -/
def Le (H H' : Hp) : Prop := ∀ a, H' a = none → H a = none
/-- all but l stays, nothing vanishes -/
structure Mu (l : Addr) (H H' : Hp) : Prop where
  keep : ∀ b o, b ≠ l → H b = some o → H' b = some o
  dom : Le H H'
section
variable {K : PySem.W.Frag} {H H1 H2 : Hp} {a b l p : Addr} {o u : HO} {xs : List V}
theorem Le.refl (H : Hp) : Le H H := fun _ h => h
theorem Le.trans (e : Le H H1) (e' : Le H1 H2) : Le H H2 := fun a h => e a (e' a h)
theorem le_s (e : Same H H1) : Le H H1 := fun _ h => e.free h
theorem le_m (e : Mu l H H1) : Le H H1 := e.dom
theorem le_free (e : Le H H1) (h : H1 a = none) : H a = none := e a h
theorem Same.new (h : H p = none) : Same H (upd H p o) := fun a u e => by
  rw [upd_ne (ne_of_none e h)]
  exact e
theorem Mu.upd : Mu l H (upd H l o) := ⟨fun b u n e => by
  rw [upd_ne n]
  exact e, fun a h => by
  by_cases z : a = l
  · subst z; rw [upd_same] at h; cases h
  · rw [upd_ne z] at h; exact h⟩
theorem Same.mu (h : Same H H1) : Mu l H H1 := ⟨fun b u _ e => h b u e, le_s h⟩
theorem Mu.trans (h : Mu l H H1) (h' : Mu l H1 H2) : Mu l H H2 := ⟨fun b u n e => h'.keep b u n (h.keep b u n e), h.dom.trans h'.dom⟩
theorem Mu.transS (h : Mu l H H1) (h' : Same H1 H2) : Mu l H H2 := ⟨fun b u n e => h' b u (h.keep b u n e), h.dom.trans (le_s h')⟩
/-- an object that H does not know may change -/
theorem Same.mut (e : Same H H1) (m : Mu l H1 H2) (h : H l = none) : Same H H2 := fun a u ha => m.keep a u (ne_of_none ha h) (e a u ha)
theorem Mu.mut (e : Mu b H H1) (m : Mu l H1 H2) (h : H l = none) : Mu b H H2 := ⟨fun a u n ha => m.keep a u (ne_of_none ha h) (e.keep a u n ha), e.dom.trans m.dom⟩
theorem lk_s (e : Same H H1) (h : H a = some o) : H1 a = some o := e a o h
theorem lk_m (e : Mu l H H1) (n : a ≠ l) (h : H a = some o) : H1 a = some o := e.keep a o n h
theorem Rd.same {u : HO} (e : Same H H1) (h : Rd H a u) : Rd H1 a u := by
  rcases h with h | ⟨o, h⟩
  · exact .inl (e _ _ h)
  · exact .inr ⟨o, e _ _ h⟩
theorem sql_s (e : Same H H1) (h : SqL K H a xs) : SqL K H1 a xs := e.seq h
theorem sqt_s (e : Same H H1) (h : SqT K H a xs) : SqT K H1 a xs := h.elim (fun h => .inl (Rd.same e h)) .inr
/-- a tuple is no list, dict or instance: it stays where l is one of these -/
theorem sqt_m (e : Mu l H H1) (m : Mut (H l)) (h : SqT K H a xs) : SqT K H1 a xs := by
  rcases h with (h | ⟨o, h⟩) | h
  · exact .inl (.inl (e.keep _ _ (fun z => by subst z; rw [h] at m; exact m) h))
  · exact .inl (.inr ⟨o, e.keep _ _ (fun z => by subst z; rw [h] at m; exact m) h⟩)
  · exact .inr h
theorem sql_m (e : Mu l H H1) (n : a ≠ l) (h : SqL K H a xs) : SqL K H1 a xs := by
  rcases h with (h | ⟨o, h⟩) | h
  · exact .inl (.inl (e.keep _ _ n h))
  · exact .inl (.inr ⟨o, e.keep _ _ n h⟩)
  · exact .inr h
end
/-- a list that never changes while it is so: the script -/
def SqF (K : PySem.W.Frag) (H : Hp) (a : Addr) (xs : List V) : Prop := (∃ o, H a = some (.frz o (.lst xs))) ∨
  ∃ (o : Obj) (its : Array Value) (n : Nat), K.lookup a = some o ∧ o.cls = .type "list" ∧ o.dict = none ∧ o.data = .seq its n ∧ its.size ≤ sizeLine ∧ Vals xs its.toList
section
variable {K : PySem.W.Frag} {H H1 : Hp} {a l : Addr} {xs : List V}
theorem SqF.sql (h : SqF K H a xs) : SqL K H a xs := h.elim (fun ⟨o, h⟩ => .inl (.inr ⟨o, h⟩)) .inr
theorem sqf_of (hO : Only H) (h : SqL K H a xs) : SqF K H a xs := by
  rcases h with (h | h) | h
  · rcases hO a with e | ⟨o, ys, e⟩ <;> rw [e] at h <;> cases h
  · exact .inl h
  · exact .inr h
theorem sqf_s (e : Same H H1) (h : SqF K H a xs) : SqF K H1 a xs := h.elim (fun ⟨o, h⟩ => .inl ⟨o, e _ _ h⟩) .inr
theorem sqf_m (e : Mu l H H1) (m : Mut (H l)) (h : SqF K H a xs) : SqF K H1 a xs := by
  rcases h with ⟨o, h⟩ | h
  · exact .inl ⟨o, e.keep _ _ (fun z => by subst z; rw [h] at m; exact m) h⟩
  · exact .inr h
end
/-! ### data -/
def tup1 (ds : List PyData) : PyData := .tuple ds
mutual
def imm : PyData → Bool
  | .list _ => false
  | .tuple ds => immAll ds
  | _ => true
def immAll : List PyData → Bool
  | [] => true
  | d :: ds => imm d && immAll ds
end
section
variable {K : PySem.W.Frag} {H H1 : Hp} {l : Addr}
mutual
theorem Dp.same (e : Same H H1) : ∀ {d : PyData} {v : V}, Dp K H v d → Dp K H1 v d
  | _, _, .non => .non
  | _, _, .bl b => .bl b
  | _, _, .int i => .int i
  | _, _, .str x => .str x
  | _, _, .lst h r => .lst (sql_s e h) (DpAll.same e r)
  | _, _, .tup h r => .tup (sqt_s e h) (DpAll.same e r)
theorem DpAll.same (e : Same H H1) : ∀ {ds : List PyData} {vs : List V}, DpAll K H vs ds → DpAll K H1 vs ds
  | _, _, .nil => .nil
  | _, _, .cons a b => .cons (Dp.same e a) (DpAll.same e b)
end
mutual
theorem Dp.mu (e : Mu l H H1) (m : Mut (H l)) : ∀ {d : PyData} {v : V}, imm d = true → Dp K H v d → Dp K H1 v d
  | _, _, _, .non => .non
  | _, _, _, .bl b => .bl b
  | _, _, _, .int i => .int i
  | _, _, _, .str x => .str x
  | _, _, i, .lst h r => by cases i
  | _, _, i, .tup h r => .tup (sqt_m e m h) (DpAll.mu e m (by simpa [imm] using i) r)
theorem DpAll.mu (e : Mu l H H1) (m : Mut (H l)) : ∀ {ds : List PyData} {vs : List V}, immAll ds = true → DpAll K H vs ds → DpAll K H1 vs ds
  | _, _, _, .nil => .nil
  | _, _, i, .cons a b => .cons (Dp.mu e m (Bool.and_eq_true_iff.mp (by simpa [immAll] using i)).1 a) (DpAll.mu e m (Bool.and_eq_true_iff.mp (by simpa [immAll] using i)).2 b)
end
theorem DpAll.len : ∀ {vs : List V} {ds : List PyData}, DpAll K H vs ds → vs.length = ds.length
  | _, _, .nil => rfl
  | _, _, .cons _ t => congrArg Nat.succ (DpAll.len t)
theorem DpAll.get : ∀ {vs : List V} {ds : List PyData} {i : Nat} {v : V}, DpAll K H vs ds → vs[i]? = some v → ∃ d, ds[i]? = some d ∧ Dp K H v d
  | _, _, _, _, .nil, e => by simp at e
  | _, _, 0, _, .cons r _, e => by simp at e; subst e; exact ⟨_, rfl, r⟩
  | _, _, i + 1, _, .cons _ t, e => by
    obtain ⟨d, h1, h2⟩ := DpAll.get (i := i) t (by simpa using e)
    exact ⟨d, by simpa using h1, h2⟩
theorem DpAll.getD : ∀ {vs : List V} {ds : List PyData} {i : Nat} {d : PyData}, DpAll K H vs ds → ds[i]? = some d → ∃ v, vs[i]? = some v ∧ Dp K H v d
  | _, _, _, _, .nil, e => by simp at e
  | _, _, 0, _, .cons r _, e => by simp at e; subst e; exact ⟨_, rfl, r⟩
  | _, _, i + 1, _, .cons _ t, e => by
    obtain ⟨v, h1, h2⟩ := DpAll.getD (i := i) t (by simpa using e)
    exact ⟨v, by simpa using h1, h2⟩
theorem DpAll.append : ∀ {vs ws : List V} {ds es : List PyData}, DpAll K H vs ds → DpAll K H ws es → DpAll K H (vs ++ ws) (ds ++ es)
  | _, _, _, _, .nil, s => s
  | _, _, _, _, .cons r t, s => .cons r (DpAll.append t s)
theorem DpAll.ints : ∀ (ns : List Int), DpAll K H (ns.map V.int) (ns.map PyData.int)
  | [] => .nil
  | n :: ns => .cons (.int n) (DpAll.ints ns)
theorem DpAll.int_inv : ∀ {ns : List Int} {vs : List V}, DpAll K H vs (ns.map PyData.int) → vs = ns.map V.int
  | [], _, .nil => rfl
  | _ :: ns, _, .cons (.int _) t => by rw [DpAll.int_inv t]; rfl
theorem DpAll.strs : ∀ (ns : List Str), DpAll K H (ns.map V.str) (ns.map PyData.str)
  | [] => .nil
  | n :: ns => .cons (.str n) (DpAll.strs ns)
end
section
variable {K : PySem.W.Frag} {H : Hp}
theorem immAll_map {α : Type} {d : α → PyData} (h : ∀ y, imm (d y) = true) : ∀ ys : List α, immAll (ys.map d) = true
  | [] => rfl
  | y :: ys => by rw [List.map_cons, immAll, h y, immAll_map h ys]; rfl
theorem Dp.tup_inv {v : V} {ds : List PyData} (h : Dp K H v (.tuple ds)) : ∃ a vs, v = .ref a ∧ SqT K H a vs ∧ DpAll K H vs ds := by
  cases h with
  | tup h r => exact ⟨_, _, rfl, h, r⟩
theorem Dp.lst_inv {v : V} {ds : List PyData} (h : Dp K H v (.list ds)) : ∃ a vs, v = .ref a ∧ SqL K H a vs ∧ DpAll K H vs ds := by
  cases h with
  | lst h r => exact ⟨_, _, rfl, h, r⟩
theorem Dp.int_inv {v : V} {i : Int} (h : Dp K H v (.int i)) : v = .int i := by cases h; rfl
theorem Dp.str_inv {v : V} {i : Str} (h : Dp K H v (.str i)) : v = .str i := by cases h; rfl
theorem Dp.bl_inv {v : V} {b : Bool} (h : Dp K H v (.bool b)) : v = .bl b := by cases h; rfl
theorem Dp.non_inv {v : V} (h : Dp K H v .none) : v = .non := by cases h; rfl
theorem DpAll.cons_inv {vs : List V} {d : PyData} {ds : List PyData} (h : DpAll K H vs (d :: ds)) : ∃ v us, vs = v :: us ∧ Dp K H v d ∧ DpAll K H us ds := by
  cases h with
  | cons a b => exact ⟨_, _, rfl, a, b⟩
theorem DpAll.nil_inv {vs : List V} (h : DpAll K H vs []) : vs = [] := by cases h; rfl
theorem DpAll.mem {vs : List V} {ds : List PyData} : DpAll K H vs ds → ∀ {v : V}, v ∈ vs → ∃ d ∈ ds, Dp K H v d
  | .nil, _, h => by cases h
  | .cons a b, _, h => by
    rcases List.mem_cons.mp h with rfl | h
    · exact ⟨_, List.mem_cons_self .., a⟩
    · obtain ⟨d, m, p⟩ := DpAll.mem b h
      exact ⟨d, List.mem_cons_of_mem _ m, p⟩
end
/-- a new object o, handed on -/
def NewO (o : HO) (Q : VK) (H : Hp) : Prop := ∀ p, H p = none → Q (.ref p) (upd H p o)
/-! ### steps -/
section
variable {K : PySem.W.Frag} {σ : L2.St} {H : Hp} {Q : VK} {QT : Bool → Hp → Prop} {QA : List V → Hp → Prop} {v x y : V} {i j : Int} {n : Nat} {ta tb tc te : TE} {tt tu : TT} {tr : TA} {D : Ends} {t u w : TS} {P : Prop} [Decidable P]
theorem c_var (h : σ[n]? = some (some v)) (k : Q v H) : tVar n σ H Q := ⟨v, h, k⟩
theorem c_var0 {r : L2.St} (k : Q v H) : tVar 0 (some v :: r) H Q := ⟨v, rfl, k⟩
theorem c_var1 {a0 : Option V} {r : L2.St} (k : Q v H) : tVar 1 (a0 :: some v :: r) H Q := ⟨v, rfl, k⟩
theorem c_var2 {a0 a1 : Option V} {r : L2.St} (k : Q v H) : tVar 2 (a0 :: a1 :: some v :: r) H Q := ⟨v, rfl, k⟩
theorem c_var3 {a0 a1 a2 : Option V} {r : L2.St} (k : Q v H) : tVar 3 (a0 :: a1 :: a2 :: some v :: r) H Q := ⟨v, rfl, k⟩
theorem c_var4 {a0 a1 a2 a3 : Option V} {r : L2.St} (k : Q v H) : tVar 4 (a0 :: a1 :: a2 :: a3 :: some v :: r) H Q := ⟨v, rfl, k⟩
theorem c_var5 {a0 a1 a2 a3 a4 : Option V} {r : L2.St} (k : Q v H) : tVar 5 (a0 :: a1 :: a2 :: a3 :: a4 :: some v :: r) H Q := ⟨v, rfl, k⟩
theorem c_var6 {a0 a1 a2 a3 a4 a5 : Option V} {r : L2.St} (k : Q v H) : tVar 6 (a0 :: a1 :: a2 :: a3 :: a4 :: a5 :: some v :: r) H Q := ⟨v, rfl, k⟩
theorem c_var7 {a0 a1 a2 a3 a4 a5 a6 : Option V} {r : L2.St} (k : Q v H) : tVar 7 (a0 :: a1 :: a2 :: a3 :: a4 :: a5 :: a6 :: some v :: r) H Q := ⟨v, rfl, k⟩
theorem c_var8 {a0 a1 a2 a3 a4 a5 a6 a7 : Option V} {r : L2.St} (k : Q v H) : tVar 8 (a0 :: a1 :: a2 :: a3 :: a4 :: a5 :: a6 :: a7 :: some v :: r) H Q := ⟨v, rfl, k⟩
theorem c_var9 {a0 a1 a2 a3 a4 a5 a6 a7 a8 : Option V} {r : L2.St} (k : Q v H) : tVar 9 (a0 :: a1 :: a2 :: a3 :: a4 :: a5 :: a6 :: a7 :: a8 :: some v :: r) H Q := ⟨v, rfl, k⟩
theorem c_var10 {a0 a1 a2 a3 a4 a5 a6 a7 a8 a9 : Option V} {r : L2.St} (k : Q v H) : tVar 10 (a0 :: a1 :: a2 :: a3 :: a4 :: a5 :: a6 :: a7 :: a8 :: a9 :: some v :: r) H Q := ⟨v, rfl, k⟩
theorem c_var11 {a0 a1 a2 a3 a4 a5 a6 a7 a8 a9 a10 : Option V} {r : L2.St} (k : Q v H) : tVar 11 (a0 :: a1 :: a2 :: a3 :: a4 :: a5 :: a6 :: a7 :: a8 :: a9 :: a10 :: some v :: r) H Q := ⟨v, rfl, k⟩
theorem c_var12 {a0 a1 a2 a3 a4 a5 a6 a7 a8 a9 a10 a11 : Option V} {r : L2.St} (k : Q v H) : tVar 12 (a0 :: a1 :: a2 :: a3 :: a4 :: a5 :: a6 :: a7 :: a8 :: a9 :: a10 :: a11 :: some v :: r) H Q := ⟨v, rfl, k⟩
theorem c_var13 {a0 a1 a2 a3 a4 a5 a6 a7 a8 a9 a10 a11 a12 : Option V} {r : L2.St} (k : Q v H) : tVar 13 (a0 :: a1 :: a2 :: a3 :: a4 :: a5 :: a6 :: a7 :: a8 :: a9 :: a10 :: a11 :: a12 :: some v :: r) H Q := ⟨v, rfl, k⟩
theorem c_var14 {a0 a1 a2 a3 a4 a5 a6 a7 a8 a9 a10 a11 a12 a13 : Option V} {r : L2.St} (k : Q v H) : tVar 14 (a0 :: a1 :: a2 :: a3 :: a4 :: a5 :: a6 :: a7 :: a8 :: a9 :: a10 :: a11 :: a12 :: a13 :: some v :: r) H Q := ⟨v, rfl, k⟩
theorem c_var15 {a0 a1 a2 a3 a4 a5 a6 a7 a8 a9 a10 a11 a12 a13 a14 : Option V} {r : L2.St} (k : Q v H) : tVar 15 (a0 :: a1 :: a2 :: a3 :: a4 :: a5 :: a6 :: a7 :: a8 :: a9 :: a10 :: a11 :: a12 :: a13 :: a14 :: some v :: r) H Q := ⟨v, rfl, k⟩
theorem c_var16 {a0 a1 a2 a3 a4 a5 a6 a7 a8 a9 a10 a11 a12 a13 a14 a15 : Option V} {r : L2.St} (k : Q v H) : tVar 16 (a0 :: a1 :: a2 :: a3 :: a4 :: a5 :: a6 :: a7 :: a8 :: a9 :: a10 :: a11 :: a12 :: a13 :: a14 :: a15 :: some v :: r) H Q := ⟨v, rfl, k⟩
theorem c_var17 {a0 a1 a2 a3 a4 a5 a6 a7 a8 a9 a10 a11 a12 a13 a14 a15 a16 : Option V} {r : L2.St} (k : Q v H) : tVar 17 (a0 :: a1 :: a2 :: a3 :: a4 :: a5 :: a6 :: a7 :: a8 :: a9 :: a10 :: a11 :: a12 :: a13 :: a14 :: a15 :: a16 :: some v :: r) H Q := ⟨v, rfl, k⟩
theorem c_var18 {a0 a1 a2 a3 a4 a5 a6 a7 a8 a9 a10 a11 a12 a13 a14 a15 a16 a17 : Option V} {r : L2.St} (k : Q v H) : tVar 18 (a0 :: a1 :: a2 :: a3 :: a4 :: a5 :: a6 :: a7 :: a8 :: a9 :: a10 :: a11 :: a12 :: a13 :: a14 :: a15 :: a16 :: a17 :: some v :: r) H Q := ⟨v, rfl, k⟩
theorem c_var19 {a0 a1 a2 a3 a4 a5 a6 a7 a8 a9 a10 a11 a12 a13 a14 a15 a16 a17 a18 : Option V} {r : L2.St} (k : Q v H) : tVar 19 (a0 :: a1 :: a2 :: a3 :: a4 :: a5 :: a6 :: a7 :: a8 :: a9 :: a10 :: a11 :: a12 :: a13 :: a14 :: a15 :: a16 :: a17 :: a18 :: some v :: r) H Q := ⟨v, rfl, k⟩
theorem c_var20 {a0 a1 a2 a3 a4 a5 a6 a7 a8 a9 a10 a11 a12 a13 a14 a15 a16 a17 a18 a19 : Option V} {r : L2.St} (k : Q v H) : tVar 20 (a0 :: a1 :: a2 :: a3 :: a4 :: a5 :: a6 :: a7 :: a8 :: a9 :: a10 :: a11 :: a12 :: a13 :: a14 :: a15 :: a16 :: a17 :: a18 :: a19 :: some v :: r) H Q := ⟨v, rfl, k⟩
theorem c_var21 {a0 a1 a2 a3 a4 a5 a6 a7 a8 a9 a10 a11 a12 a13 a14 a15 a16 a17 a18 a19 a20 : Option V} {r : L2.St} (k : Q v H) : tVar 21 (a0 :: a1 :: a2 :: a3 :: a4 :: a5 :: a6 :: a7 :: a8 :: a9 :: a10 :: a11 :: a12 :: a13 :: a14 :: a15 :: a16 :: a17 :: a18 :: a19 :: a20 :: some v :: r) H Q := ⟨v, rfl, k⟩
theorem c_var22 {a0 a1 a2 a3 a4 a5 a6 a7 a8 a9 a10 a11 a12 a13 a14 a15 a16 a17 a18 a19 a20 a21 : Option V} {r : L2.St} (k : Q v H) : tVar 22 (a0 :: a1 :: a2 :: a3 :: a4 :: a5 :: a6 :: a7 :: a8 :: a9 :: a10 :: a11 :: a12 :: a13 :: a14 :: a15 :: a16 :: a17 :: a18 :: a19 :: a20 :: a21 :: some v :: r) H Q := ⟨v, rfl, k⟩
theorem c_var23 {a0 a1 a2 a3 a4 a5 a6 a7 a8 a9 a10 a11 a12 a13 a14 a15 a16 a17 a18 a19 a20 a21 a22 : Option V} {r : L2.St} (k : Q v H) : tVar 23 (a0 :: a1 :: a2 :: a3 :: a4 :: a5 :: a6 :: a7 :: a8 :: a9 :: a10 :: a11 :: a12 :: a13 :: a14 :: a15 :: a16 :: a17 :: a18 :: a19 :: a20 :: a21 :: a22 :: some v :: r) H Q := ⟨v, rfl, k⟩
theorem c_c (k : Q v H) : tC v σ H Q := k
theorem c_op {r : R2} (k : ta σ H fun x H1 => tb σ H1 fun y H2 => r x y H2 Q) : tOp r ta tb σ H Q := k
theorem c_un {r : V → Hp → VK → Prop} (k : ta σ H fun x H1 => r x H1 Q) : tUn r ta σ H Q := k
theorem c_I0 {g : Int → Int → V} (k : Q (g i j) H) : rI0 g (.int i) (.int j) H Q := ⟨i, j, rfl, rfl, k⟩
theorem c_I {C : Int → Int → Prop} {g : Int → Int → V} (c : C i j) (k : Q (g i j) H) : rI C g (.int i) (.int j) H Q := ⟨i, j, rfl, rfl, c, k⟩
theorem c_U {g : Int → V} (k : Q (g i) H) : rU g (.int i) H Q := ⟨i, rfl, k⟩
theorem c_eqI (k : Q (.bl (decide (i = j))) H) : rEq (.int i) (.int j) H Q := ⟨rfl, by simpa using k⟩
theorem c_neI (k : Q (.bl (!decide (i = j))) H) : rNe (.int i) (.int j) H Q := ⟨rfl, by simpa using k⟩
theorem c_eqS {a b : Str} (k : Q (.bl (decide (a = b))) H) : rEq (.str a) (.str b) H Q := ⟨rfl, by simpa using k⟩
theorem c_neS {a b : Str} (k : Q (.bl (!decide (a = b))) H) : rNe (.str a) (.str b) H Q := ⟨rfl, by simpa using k⟩
theorem c_eqB {a b : Bool} (k : Q (.bl (decide (a = b))) H) : rEq (.bl a) (.bl b) H Q := ⟨rfl, by simpa using k⟩
theorem c_neB {a b : Bool} (k : Q (.bl (!decide (a = b))) H) : rNe (.bl a) (.bl b) H Q := ⟨rfl, by simpa using k⟩
theorem c_eqIS {a : Str} (k : Q (.bl false) H) : rEq (.int i) (.str a) H Q := ⟨rfl, k⟩
theorem c_eqSI {a : Str} (k : Q (.bl false) H) : rEq (.str a) (.int i) H Q := ⟨rfl, k⟩
theorem c_isN (k : Q (.bl (decide (x = .non))) H) : rIsN x .non H Q := ⟨rfl, k⟩
theorem c_notN (k : Q (.bl (!decide (x = .non))) H) : rNotN x .non H Q := ⟨rfl, k⟩
theorem c_test (k : te σ H fun x H' => ∃ k, x = .bl k ∧ QT k H') : tTest te σ H QT := k
theorem c_B (k : te σ H fun x H' => ∃ k, x = .bl k ∧ QT k H') : tB te σ H QT := k
theorem c_bl {b : Bool} {P : Bool → Prop} (k : P b) : ∃ k, V.bl b = .bl k ∧ P k := ⟨b, rfl, k⟩
theorem c_tru (k : te σ H fun x H' => ∃ k, TruV K x H' k ∧ QT k H') : tTru K te σ H QT := k
theorem c_andT (k : tt σ H fun c H1 => if c = true then tu σ H1 QT else QT false H1) : tAnd tt tu σ H QT := k
theorem c_orT (k : tt σ H fun c H1 => if c = true then QT true H1 else tu σ H1 QT) : tOr tt tu σ H QT := k
theorem c_notT (k : tt σ H fun c H1 => QT (!c) H1) : tNot tt σ H QT := k
/-- a test that leaves the heap as it is answers b -/
def An (t : TT) (σ : L2.St) (H : Hp) (b : Bool) : Prop := ∀ QT : Bool → Hp → Prop, QT b H → t σ H QT
theorem c_andP {a b : Bool} (h1 : An tt σ H a) (h2 : a = true → An tu σ H b) (k : QT (a && b) H) : tAnd tt tu σ H QT := h1 _ (by
  cases a
  · exact k
  · exact h2 rfl _ k)
theorem c_orP {a b : Bool} (h1 : An tt σ H a) (h2 : a = false → An tu σ H b) (k : QT (a || b) H) : tOr tt tu σ H QT := h1 _ (by
  cases a
  · exact h2 rfl _ k
  · exact k)
theorem c_andV (k : ta σ H fun x H1 => ∃ c, x = .bl c ∧ if c = true then tb σ H1 Q else Q (.bl false) H1) : tAndV ta tb σ H Q := k
theorem c_orV (k : ta σ H fun x H1 => ∃ c, x = .bl c ∧ if c = true then Q (.bl true) H1 else tb σ H1 Q) : tOrV ta tb σ H Q := k
theorem c_notV (k : ta σ H fun x H1 => ∃ c, x = .bl c ∧ Q (.bl (!c)) H1) : tNotV ta σ H Q := k
theorem c_if (k : tt σ H fun c H1 => if c = true then ta σ H1 Q else tb σ H1 Q) : tIf tt ta tb σ H Q := k
theorem c_ite {A B : Prop} (h1 : P → A) (h2 : ¬ P → B) : if decide P = true then A else B := by
  by_cases h : P
  · rw [if_pos (decide_eq_true h)]; exact h1 h
  · rw [if_neg (by simpa using h)]; exact h2 h
theorem c_iteN {A B : Prop} (h1 : ¬ P → A) (h2 : P → B) : if (!decide P) = true then A else B := by
  by_cases h : P
  · rw [if_neg (by simpa using h)]; exact h2 h
  · rw [if_pos (by simpa using h)]; exact h1 h
theorem c_iteb {b : Bool} {A B : Prop} (h1 : b = true → A) (h2 : b = false → B) : if b = true then A else B := by
  cases b
  · exact h2 rfl
  · exact h1 rfl
theorem c_iteT {A B : Prop} (h : A) : if true = true then A else B := h
theorem c_iteF {A B : Prop} (h : B) : if false = true then A else B := h
theorem c_iteKT {b : Bool} {A B : Prop} (e : b = true) (h : A) : if b = true then A else B := by rw [if_pos e]; exact h
theorem c_iteKF {b : Bool} {A B : Prop} (e : b = false) (h : B) : if b = true then A else B := by rw [if_neg (by rw [e]; decide)]; exact h
theorem c_iteNT {A B : Prop} (h : B) : if (!true) = true then A else B := h
theorem c_iteNF {A B : Prop} (h : A) : if (!false) = true then A else B := h
theorem c_nil (k : QA [] H) : tNil σ H QA := k
theorem c_cons (k : ta σ H fun x H1 => tr σ H1 fun xs H2 => QA (x :: xs) H2) : tCons ta tr σ H QA := k
theorem c_CB {r : List V → Hp → VK → Prop} (k : tr σ H fun vs H1 => r vs H1 Q) : tCB r tr σ H Q := k
theorem c_int1 (k : Q (.int i) H) : rInt1 [.int i] H Q := .inl ⟨i, rfl, k⟩
theorem c_int1b {b : Bool} (k : Q (.int (if b then 1 else 0)) H) : rInt1 [.bl b] H Q := .inr ⟨b, rfl, k⟩
theorem c_bool1 (k : Q (.bl (i != 0)) H) : rBool1 [.int i] H Q := .inl ⟨i, rfl, k⟩
theorem c_abs1 (k : Q (.int (if i < 0 then -i else i)) H) : rAbs1 [.int i] H Q := ⟨i, rfl, k⟩
theorem c_min2 (k : Q (.int (min i j)) H) : rMin2 [.int i, .int j] H Q := ⟨i, j, rfl, by
  have e : (if j < i then j else i) = min i j := by split <;> omega
  rw [e]; exact k⟩
theorem c_max2 (k : Q (.int (max i j)) H) : rMax2 [.int i, .int j] H Q := ⟨i, j, rfl, by
  have e : (if j > i then j else i) = max i j := by split <;> omega
  rw [e]; exact k⟩
theorem c_lenL {a : Addr} {xs : List V} (h : SqL K H a xs) (k : Q (.int xs.length) H) : rLen K [.ref a] H Q := ⟨.ref a, xs.length, rfl, .inl ⟨xs, h, rfl⟩, k⟩
theorem c_lenT {a : Addr} {xs : List V} (h : SqT K H a xs) (k : Q (.int xs.length) H) : rLen K [.ref a] H Q := ⟨.ref a, xs.length, rfl, .inr ⟨xs, h, rfl⟩, k⟩
theorem c_lenS {z : Str} (h : z.length ≤ sizeLine) (k : Q (.int z.length) H) : rLen K [.str z] H Q := ⟨.str z, z.length, rfl, ⟨h, rfl⟩, k⟩
theorem c_call {sp : Sp} {dvs : List V} {E : XK} (k : tr σ H fun vs H1 => sp (vs ++ dvs) H1 Q E) : tCall sp dvs E tr σ H Q := k
/-- statements -/
theorem c_seq (k : t { D with nx := u D } σ H) : tSeq t u D σ H := k
theorem c_seqAsg (k : te σ H fun x H1 => u D (σ.set n (some x)) H1) : tSeq (tAsg te (gName n)) u D σ H := k
theorem c_seqIf (k : tt σ H fun b H1 => if b = true then t { D with nx := u D } σ H1 else w { D with nx := u D } σ H1) : tSeq (tIfS tt t w) u D σ H := k
/-- an if without else whose branch does not come back is one with the rest behind it -/
theorem c_seqWhen (k : tt σ H fun b H1 => if b = true then t { D with nx := u D } σ H1 else u D σ H1) : tSeq (tIfS tt t tNext) u D σ H := k
theorem cut (M : L2.St → Hp → Prop) (h : t { D with nx := M } σ H) (k : ∀ σ' H', M σ' H' → u D σ' H') : Evl.tCut t u D σ H := ⟨M, h, k⟩
theorem cutA (h : t { D with nx := u D } σ H) : Evl.tCut t u D σ H := ⟨u D, h, fun _ _ q => q⟩
theorem c_ifS (k : tt σ H fun b H1 => if b = true then t D σ H1 else w D σ H1) : tIfS tt t w D σ H := k
theorem c_ret (k : te σ H D.rt) : tRet te D σ H := k
theorem c_retN (k : D.rt .non H) : tRetN D σ H := k
theorem c_asg {g : TG} (k : te σ H fun x H1 => g x σ H1 D.nx) : tAsg te g D σ H := k
theorem c_asgN (k : te σ H fun x H1 => D.nx (σ.set n (some x)) H1) : tAsg te (gName n) D σ H := k
theorem c_drop (k : te σ H fun _ H1 => D.nx σ H1) : tDrop te D σ H := k
theorem c_next (k : D.nx σ H) : tNext D σ H := k
theorem c_break (k : D.bk σ H) : tBreak D σ H := k
theorem c_cont (k : D.ct σ H) : tCont D σ H := k
theorem c_aug {ti : TIp} (h : σ[n]? = some (some x)) (k : te σ H fun y H1 => ti x y H1 fun z H2 => D.nx (σ.set n (some z)) H2) : tAug n te ti D σ H := ⟨x, h, k⟩
theorem c_ipI {f : Int → Int → Int} (k : Q (.int (f i j)) H) : ipI f (.int i) (.int j) H Q := ⟨i, j, rfl, rfl, k⟩
/-- new objects -/
theorem c_tup (k : tr σ H fun xs H1 => xs.length ≤ sizeLine ∧ NewO (.tup xs) Q H1) : tTup tr σ H Q := k
theorem c_lst (k : tr σ H fun xs H1 => xs.length ≤ sizeLine ∧ NewO (.lst xs) Q H1) : tLst tr σ H Q := k
theorem c_new1 {o : HO} (k : ∀ p H1, H p = none → Same H H1 → H1 p = some o → Q (.ref p) H1) : NewO o Q H :=
  fun p hp => k p _ hp (Same.new hp) upd_same
theorem c_new {o : HO} {B : Prop} (hb : B) (k : ∀ p H1, H p = none → Same H H1 → H1 p = some o → Q (.ref p) H1) : B ∧ NewO o Q H := ⟨hb, c_new1 k⟩
/-- lists -/
theorem c_ixL {p : Addr} {xs : List V} (h : SqL K H p xs) (e : atI xs i = some v) (k : Q v H) : rIxL K (.ref p) (.int i) H Q := ⟨p, xs, i, v, rfl, rfl, h, e, k⟩
theorem c_ixT {p : Addr} {xs : List V} (h : SqT K H p xs) (e : atI xs i = some v) (k : Q v H) : rIxT K (.ref p) (.int i) H Q := ⟨p, xs, i, v, rfl, rfl, h, e, k⟩
theorem c_ixS {z : Str} {c : Nat} (h : z.length ≤ sizeLine) (e : atI z.cps.toList i = some c) (k : Q (.str ⟨#[c]⟩) H) : rIxS (.str z) (.int i) H Q := ⟨z, i, c, rfl, rfl, h, e, k⟩
theorem c_setL {p : Addr} {xs : List V} {j : Nat} {QH : Hp → Prop} (h : H p = some (.lst xs)) (e : ixN xs.length i = some j) (k : ∀ H1, Mu p H H1 → H1 p = some (.lst (xs.set j v)) → QH H1) : rSetL (.ref p) (.int i) v H QH :=
  ⟨p, xs, i, j, rfl, rfl, h, e, k _ Mu.upd upd_same⟩
theorem c_gSub {to ti : TE} {ts : TSet} {QS : L2.St → Hp → Prop} (k : to σ H fun o H1 => ti σ H1 fun i H2 => ts o i v H2 fun H3 => QS σ H3) : gSub to ti ts v σ H QS := k
theorem c_BM {T : String} {r : V → List V → Hp → VK → Prop} (k : te σ H fun x H1 => tyV K T x H1 ∧ tr σ H1 fun xs H2 => r x xs H2 Q) : tBM K T r te tr σ H Q := k
theorem c_BM0 {T : String} {r : V → List V → Hp → VK → Prop} (k : te σ H fun x H1 => tyV K T x H1 ∧ r x [] H1 Q) : tBM0 K T r te σ H Q := k
theorem c_tyL {a : Addr} {xs : List V} {B : Prop} (h : H a = some (.lst xs)) (k : B) : tyV K "list" (.ref a) H ∧ B := ⟨Or.inl ⟨rfl, _, Or.inl (Or.inl h)⟩, k⟩
theorem c_append {l : Addr} {xs : List V} (h : H l = some (.lst xs)) (hz : xs.length < sizeLine) (k : ∀ H1, Mu l H H1 → H1 l = some (.lst (xs ++ [y])) → Q .non H1) : rAppend (.ref l) [y] H Q :=
  ⟨l, xs, y, rfl, rfl, h, hz, k _ Mu.upd upd_same⟩
theorem c_extend {l b : Addr} {xs zs : List V} (h : H l = some (.lst xs)) (hb : H b = some (.lst zs)) (hz : xs.length + zs.length ≤ sizeLine) (k : ∀ H1, Mu l H H1 → H1 l = some (.lst (xs ++ zs)) → Q .non H1) : rExtend (.ref l) [.ref b] H Q :=
  ⟨l, b, xs, zs, rfl, rfl, h, hb, hz, k _ Mu.upd upd_same⟩
theorem c_pop {l : Addr} {xs : List V} (h : H l = some (.lst xs)) (e : xs[xs.length - 1]? = some y) (k : ∀ H1, Mu l H H1 → H1 l = some (.lst xs.dropLast) → Q y H1) : rPop (.ref l) [] H Q :=
  ⟨l, xs, y, rfl, rfl, h, e, k _ Mu.upd upd_same⟩
theorem c_cat {l b : Addr} {xs zs : List V} (h : H l = some (.lst xs)) (hb : H b = some (.lst zs)) (hz : xs.length + zs.length ≤ sizeLine) (k : ∀ p H1, H p = none → Same H H1 → H1 p = some (.lst (xs ++ zs)) → Q (.ref p) H1) : rCat (.ref l) (.ref b) H Q :=
  ⟨l, b, xs, zs, rfl, rfl, h, hb, hz, c_new1 k⟩
theorem c_slL {a : Addr} {xs : List V} {lo hi : Option Int} (h : SqL K H a xs) (k : ∀ p H1, H p = none → Same H H1 → H1 p = some (.lst (cutV xs lo hi)) → Q (.ref p) H1) : rSlL K (.ref a) lo hi H Q :=
  ⟨a, xs, rfl, h, c_new1 k⟩
theorem c_sl {r : V → Option Int → Option Int → Hp → VK → Prop} {tl th : TO} (k : te σ H fun x H1 => tl σ H1 fun l H2 => th σ H2 fun u H3 => r x l u H3 Q) : tSl r te tl th σ H Q := k
theorem c_noPart {QO : Option Int → Hp → Prop} (k : QO none H) : tNoPart σ H QO := k
theorem c_part {QO : Option Int → Hp → Prop} (k : te σ H fun x H1 => ∃ i, x = .int i ∧ QO (some i) H1) : tPart te σ H QO := k
theorem c_exI {P : Int → Prop} (k : P i) : ∃ k, V.int i = .int k ∧ P k := ⟨i, rfl, k⟩
/-- targets -/
theorem g_name {QS : L2.St → Hp → Prop} (k : QS (σ.set n (some v)) H) : gName n v σ H QS := k
theorem g_tup {QS : L2.St → Hp → Prop} {m : Nat} {tg : TGs} {a : Addr} {xs : List V} (h : SqT K H a xs) (e : xs.length = m) (k : tg xs σ H QS) : gTup K m tg (.ref a) σ H QS := ⟨a, xs, rfl, h, e, k⟩
theorem g_cons {QS : L2.St → Hp → Prop} {g : TG} {gs : TGs} {vs : List V} (k : g v σ H fun σ' H' => gs vs σ' H' QS) : gCons g gs (v :: vs) σ H QS := ⟨v, vs, rfl, k⟩
theorem g_nil {QS : L2.St → Hp → Prop} (k : QS σ H) : gNil [] σ H QS := ⟨rfl, k⟩
end
/-! ### loops -/
section
variable {K : PySem.W.Frag} {σ : L2.St} {H : Hp} {g : TG} {tb : TS} {D : Ends} {tl : TE} {ta : TA} {a : Addr} {xs : List V} {x : V}
/-- a for over the list x -/
def FL (K : PySem.W.Frag) (g : TG) (tb : TS) (D : Ends) (x : V) (σ : L2.St) (H : Hp) : Prop := tFor (iList K (tC x)) g tb D σ H
def FT (K : PySem.W.Frag) (g : TG) (tb : TS) (D : Ends) (x : V) (σ : L2.St) (H : Hp) : Prop := tFor (iTup K (tC x)) g tb D σ H
def FR (g : TG) (tb : TS) (D : Ends) (lo : Int) (n : Nat) (σ : L2.St) (H : Hp) : Prop := ∃ W : Nat → Nat → L2.St → Hp → Prop, (∃ m, W 0 m σ H) ∧ ∀ i m σ H, W i m σ H →
  ((Itr lo n).stop i H ∧ D.nx σ H) ∨ ((Itr lo n).go i H ∧ ∃ N : L2.St → Hp → Prop, (∀ σ' H', N σ' H' → ∃ m', m' < m ∧ W (i + 1) m' σ' H') ∧ ∀ x H', (Itr lo n).yld i H x H' → g x σ H' fun σ2 H2 => tb { D with nx := N, ct := N, bk := D.nx } σ2 H2)
theorem c_forL (k : tl σ H fun x H1 => FL K g tb D x σ H1) : tFor (iList K tl) g tb D σ H := k
theorem c_forT (k : tl σ H fun x H1 => FT K g tb D x σ H1) : tFor (iTup K tl) g tb D σ H := k
def bnd62 (i : Int) : Prop := -(2 ^ 62) ≤ i ∧ i < 2 ^ 62
theorem c_forR1 (k : ta σ H fun vs H1 => ∃ j : Int, vs = [.int j] ∧ bnd62 j ∧ FR g tb D 0 j.toNat σ H1) : tFor (iRng1 ta) g tb D σ H := by
  have e : (fun (vs : List V) (H1 : Hp) => ∃ j : Int, vs = [V.int j] ∧ bnd62 j ∧ FR g tb D 0 j.toNat σ H1) = fun vs H1 => ∃ j : Int, vs = [.int j] ∧ -(2 ^ 62) ≤ j ∧ j < 2 ^ 62 ∧ FR g tb D 0 j.toNat σ H1 := by
    funext vs H1
    simp only [bnd62, and_assoc]
  rw [e] at k
  exact k
theorem c_forR2 (k : ta σ H fun vs H1 => ∃ i j : Int, vs = [.int i, .int j] ∧ (bnd62 i ∧ bnd62 j) ∧ FR g tb D i (j - i).toNat σ H1) : tFor (iRng2 ta) g tb D σ H := by
  have e : (fun (vs : List V) (H1 : Hp) => ∃ i j : Int, vs = [V.int i, V.int j] ∧ (bnd62 i ∧ bnd62 j) ∧ FR g tb D i (j - i).toNat σ H1) = fun vs H1 => ∃ i j : Int, vs = [.int i, .int j] ∧ (-(2 ^ 62) ≤ i ∧ i < 2 ^ 62 ∧ -(2 ^ 62) ≤ j ∧ j < 2 ^ 62) ∧ FR g tb D i (j - i).toNat σ H1 := by
    funext vs H1
    simp only [bnd62, and_assoc]
  rw [e] at k
  exact k
theorem fr_in1 {j : Int} (h : bnd62 j) (k : FR g tb D 0 j.toNat σ H) : ∃ i : Int, [V.int j] = [.int i] ∧ bnd62 i ∧ FR g tb D 0 i.toNat σ H := ⟨j, rfl, h, k⟩
theorem fr_in2 {i j : Int} (h : bnd62 i ∧ bnd62 j) (k : FR g tb D i (j - i).toNat σ H) : ∃ i' j' : Int, [V.int i, V.int j] = [.int i', .int j'] ∧ (bnd62 i' ∧ bnd62 j') ∧ FR g tb D i' (j' - i').toNat σ H := ⟨i, j, rfl, h, k⟩
theorem bnd_small {n : Nat} (h : n ≤ 1000000000) : bnd62 (n : Int) := ⟨by omega, by omega⟩
theorem bnd_of {i : Int} (h : -1000000000000 ≤ i) (h' : i ≤ 1000000000000) : bnd62 i := ⟨by omega, by omega⟩
theorem fl_use (h : SqL K H a xs) (Pv : Nat → L2.St → Hp → Prop) (h0 : Pv 0 σ H) (hl : ∀ i σ H, i ≤ xs.length → Pv i σ H → SqL K H a xs)
    (hs : ∀ i x σ H, xs[i]? = some x → Pv i σ H → g x σ H fun σ2 H2 => tb { D with nx := Pv (i + 1), ct := Pv (i + 1), bk := D.nx } σ2 H2) (hd : ∀ σ H, Pv xs.length σ H → D.nx σ H) : FL K g tb D (.ref a) σ H :=
  ⟨a, rfl, ⟨xs, h⟩, for_list Pv h0 hl hs hd⟩
/-- .. where all that stood stays -/
theorem fl_s (h : SqL K H a xs) (Pv : Nat → L2.St → Hp → Prop) (h0 : Pv 0 σ H)
    (hs : ∀ i x σ' H', xs[i]? = some x → Same H H' → Pv i σ' H' → g x σ' H' fun σ2 H2 => tb { D with nx := fun σ3 H3 => Same H H3 ∧ Pv (i + 1) σ3 H3, ct := fun σ3 H3 => Same H H3 ∧ Pv (i + 1) σ3 H3, bk := D.nx } σ2 H2) (hd : ∀ σ' H', Same H H' → Pv xs.length σ' H' → D.nx σ' H') : FL K g tb D (.ref a) σ H :=
  fl_use h (fun i σ' H' => Same H H' ∧ Pv i σ' H') ⟨Same.refl H, h0⟩ (fun _ _ _ _ p => p.1.seq h) (fun i x σ' H' e p => hs i x σ' H' e p.1 p.2) fun σ' H' p => hd σ' H' p.1 p.2
theorem ft_use (h : SqT K H a xs) (Pv : Nat → L2.St → Hp → Prop) (h0 : Pv 0 σ H) (hl : ∀ i σ H, i ≤ xs.length → Pv i σ H → SqT K H a xs)
    (hs : ∀ i x σ H, xs[i]? = some x → Pv i σ H → g x σ H fun σ2 H2 => tb { D with nx := Pv (i + 1), ct := Pv (i + 1), bk := D.nx } σ2 H2) (hd : ∀ σ H, Pv xs.length σ H → D.nx σ H) : FT K g tb D (.ref a) σ H :=
  ⟨a, rfl, ⟨xs, h⟩, for_tup Pv h0 hl hs hd⟩
theorem ft_s (h : SqT K H a xs) (Pv : Nat → L2.St → Hp → Prop) (h0 : Pv 0 σ H)
    (hs : ∀ i x σ' H', xs[i]? = some x → Same H H' → Pv i σ' H' → g x σ' H' fun σ2 H2 => tb { D with nx := fun σ3 H3 => Same H H3 ∧ Pv (i + 1) σ3 H3, ct := fun σ3 H3 => Same H H3 ∧ Pv (i + 1) σ3 H3, bk := D.nx } σ2 H2) (hd : ∀ σ' H', Same H H' → Pv xs.length σ' H' → D.nx σ' H') : FT K g tb D (.ref a) σ H :=
  ft_use h (fun i σ' H' => Same H H' ∧ Pv i σ' H') ⟨Same.refl H, h0⟩ (fun _ _ _ _ p => sqt_s p.1 h) (fun i x σ' H' e p => hs i x σ' H' e p.1 p.2) fun σ' H' p => hd σ' H' p.1 p.2
/-- a loop as a fold: f what the items are, step what a turn makes of the state -/
theorem fl_g {α β : Type} (f : α → V) (ys : List α) (step : β → α → β) (s0 : β) (h : SqL K H a (ys.map f)) (Pv : β → L2.St → Hp → Prop) (hl : ∀ s σ' H', Pv s σ' H' → SqL K H' a (ys.map f)) (h0 : Pv s0 σ H)
    (hs : ∀ s y σ' H', y ∈ ys → Pv s σ' H' → g (f y) σ' H' fun σ2 H2 => tb { D with nx := fun σ3 H3 => Pv (step s y) σ3 H3, ct := fun σ3 H3 => Pv (step s y) σ3 H3, bk := D.nx } σ2 H2) (hd : ∀ σ' H', Pv (ys.foldl step s0) σ' H' → D.nx σ' H') : FL K g tb D (.ref a) σ H := by
  refine fl_use h (fun i σ' H' => Pv ((ys.take i).foldl step s0) σ' H') (by simpa using h0) (fun i σ' H' _ p => hl _ σ' H' p) (fun i x σ' H' e p => ?_) fun σ' H' p => ?_
  · rw [List.getElem?_map] at e
    cases e2 : ys[i]? with
    | none => rw [e2] at e; cases e
    | some y =>
      rw [e2] at e
      cases e
      have e3 : (ys.take (i + 1)).foldl step s0 = step ((ys.take i).foldl step s0) y := by rw [List.take_add_one, e2, List.foldl_append]; rfl
      rw [e3]
      exact hs _ y σ' H' (List.mem_of_getElem? e2) p
  · rw [List.length_map, List.take_length] at p
    exact hd σ' H' p
theorem fl_f {α β : Type} (f : α → V) (ys : List α) (step : β → α → β) (s0 : β) (h : SqL K H a (ys.map f)) (Pv : β → L2.St → Hp → Prop) (h0 : Pv s0 σ H)
    (hs : ∀ s y σ' H', y ∈ ys → Same H H' → Pv s σ' H' → g (f y) σ' H' fun σ2 H2 => tb { D with nx := fun σ3 H3 => Same H H3 ∧ Pv (step s y) σ3 H3, ct := fun σ3 H3 => Same H H3 ∧ Pv (step s y) σ3 H3, bk := D.nx } σ2 H2) (hd : ∀ σ' H', Same H H' → Pv (ys.foldl step s0) σ' H' → D.nx σ' H') : FL K g tb D (.ref a) σ H :=
  fl_g f ys step s0 h (fun s σ' H' => Same H H' ∧ Pv s σ' H') (fun _ _ _ p => p.1.seq h) ⟨Same.refl H, h0⟩ (fun s y σ' H' m p => hs s y σ' H' m p.1 p.2) fun σ' H' p => hd σ' H' p.1 p.2
theorem ft_g {α β : Type} (f : α → V) (ys : List α) (step : β → α → β) (s0 : β) (h : SqT K H a (ys.map f)) (Pv : β → L2.St → Hp → Prop) (hl : ∀ s σ' H', Pv s σ' H' → SqT K H' a (ys.map f)) (h0 : Pv s0 σ H)
    (hs : ∀ s y σ' H', y ∈ ys → Pv s σ' H' → g (f y) σ' H' fun σ2 H2 => tb { D with nx := fun σ3 H3 => Pv (step s y) σ3 H3, ct := fun σ3 H3 => Pv (step s y) σ3 H3, bk := D.nx } σ2 H2) (hd : ∀ σ' H', Pv (ys.foldl step s0) σ' H' → D.nx σ' H') : FT K g tb D (.ref a) σ H := by
  refine ft_use h (fun i σ' H' => Pv ((ys.take i).foldl step s0) σ' H') (by simpa using h0) (fun i σ' H' _ p => hl _ σ' H' p) (fun i x σ' H' e p => ?_) fun σ' H' p => ?_
  · rw [List.getElem?_map] at e
    cases e2 : ys[i]? with
    | none => rw [e2] at e; cases e
    | some y =>
      rw [e2] at e
      cases e
      have e3 : (ys.take (i + 1)).foldl step s0 = step ((ys.take i).foldl step s0) y := by rw [List.take_add_one, e2, List.foldl_append]; rfl
      rw [e3]
      exact hs _ y σ' H' (List.mem_of_getElem? e2) p
  · rw [List.length_map, List.take_length] at p
    exact hd σ' H' p
theorem fr_use {lo : Int} {n : Nat} (Pv : Nat → L2.St → Hp → Prop) (h0 : Pv 0 σ H) (hs : ∀ i σ H, i < n → Pv i σ H → g (.int (lo + i)) σ H fun σ2 H2 => tb { D with nx := Pv (i + 1), ct := Pv (i + 1), bk := D.nx } σ2 H2) (hd : ∀ σ H, Pv n σ H → D.nx σ H) : FR g tb D lo n σ H :=
  for_range Pv h0 hs hd
theorem fr0_use {n : Nat} (Pv : Nat → L2.St → Hp → Prop) (h0 : Pv 0 σ H) (hs : ∀ i σ H, i < n → Pv i σ H → g (.int (i : Int)) σ H fun σ2 H2 => tb { D with nx := Pv (i + 1), ct := Pv (i + 1), bk := D.nx } σ2 H2) (hd : ∀ σ H, Pv n σ H → D.nx σ H) : FR g tb D 0 n σ H :=
  fr_use Pv h0 (fun i σ H hi p => by rw [Int.zero_add]; exact hs i σ H hi p) hd
end
section
variable {K : PySem.W.Frag} {σ : L2.St} {H : Hp} {g : TG} {tb : TS} {D : Ends} {a : Addr} {vs : List V}
/-- a loop over a tuple of data, as a fold -/
theorem ft_d {α β : Type} (d : α → PyData) (ys : List α) (step : β → α → β) (s0 : β) (h : SqT K H a vs) (hd : DpAll K H vs (ys.map d)) (Pv : β → L2.St → Hp → Prop) (hl : ∀ s σ' H', Pv s σ' H' → SqT K H' a vs ∧ DpAll K H' vs (ys.map d)) (h0 : Pv s0 σ H)
    (hs : ∀ pre y post v σ' H', ys = pre ++ y :: post → Dp K H' v (d y) → Pv (pre.foldl step s0) σ' H' → g v σ' H' fun σ2 H2 => tb { D with nx := fun σ3 H3 => Pv (step (pre.foldl step s0) y) σ3 H3, ct := fun σ3 H3 => Pv (step (pre.foldl step s0) y) σ3 H3, bk := D.nx } σ2 H2)
    (hn : ∀ σ' H', Pv (ys.foldl step s0) σ' H' → D.nx σ' H') : FT K g tb D (.ref a) σ H := by
  have hlen := DpAll.len hd
  rw [List.length_map] at hlen
  refine ft_use h (fun i σ' H' => Pv ((ys.take i).foldl step s0) σ' H') (by simpa using h0) (fun i σ' H' _ p => (hl _ σ' H' p).1) (fun i x σ' H' e p => ?_) fun σ' H' p => ?_
  · obtain ⟨d', e2, hp⟩ := DpAll.get (hl _ σ' H' p).2 e
    rw [List.getElem?_map] at e2
    cases e3 : ys[i]? with
    | none => rw [e3] at e2; cases e2
    | some y =>
      rw [e3] at e2
      cases e2
      have e4 : (ys.take (i + 1)).foldl step s0 = step ((ys.take i).foldl step s0) y := by rw [List.take_add_one, e3, List.foldl_append]; rfl
      rw [e4]
      obtain ⟨hi, e5⟩ := List.getElem?_eq_some_iff.mp e3
      exact hs (ys.take i) y (ys.drop (i + 1)) x σ' H' (by rw [← e5, List.getElem_cons_drop, List.take_append_drop]) hp p
  · rw [hlen, List.take_length] at p
    exact hn σ' H' p
theorem foldl_app {α : Type} (e : α → List Int) : ∀ (ys : List α) (s : List Int), ys.foldl (fun s y => s ++ e y) s = s ++ ys.flatMap e
  | [], s => by simp
  | y :: ys, s => by rw [List.foldl_cons, foldl_app e ys, List.flatMap_cons, List.append_assoc]
/-- a loop over a tuple of data that puts e y behind a list -/
theorem ft_app {α : Type} (d : α → PyData) (e : α → List Int) (ys : List α) (s0 : List Int) (B : Nat) (h : SqT K H a vs) (hd : DpAll K H vs (ys.map d)) (hB : s0.length + (ys.flatMap e).length ≤ B) (Pv : List Int → L2.St → Hp → Prop)
    (hl : ∀ s σ' H', Pv s σ' H' → SqT K H' a vs ∧ DpAll K H' vs (ys.map d)) (h0 : Pv s0 σ H)
    (hs : ∀ s y v σ' H', y ∈ ys → s.length + (e y).length ≤ B → Dp K H' v (d y) → Pv s σ' H' → g v σ' H' fun σ2 H2 => tb { D with nx := fun σ3 H3 => Pv (s ++ e y) σ3 H3, ct := fun σ3 H3 => Pv (s ++ e y) σ3 H3, bk := D.nx } σ2 H2)
    (hn : ∀ σ' H', Pv (s0 ++ ys.flatMap e) σ' H' → D.nx σ' H') : FT K g tb D (.ref a) σ H := by
  refine ft_d d ys (fun s y => s ++ e y) s0 h hd Pv hl h0 (fun pre y post v σ' H' hy hv p => ?_) fun σ' H' p => ?_
  · refine hs _ y v σ' H' (by rw [hy]; simp) ?_ hv p
    rw [foldl_app, List.length_append]
    rw [hy, List.flatMap_append, List.flatMap_cons, List.length_append, List.length_append] at hB
    omega
  · rw [foldl_app] at p
    exact hn σ' H' p
theorem fl_app {α : Type} (f : α → V) (e : α → List Int) (ys : List α) (s0 : List Int) (B : Nat) (h : SqL K H a (ys.map f)) (hB : s0.length + (ys.flatMap e).length ≤ B) (Pv : List Int → L2.St → Hp → Prop)
    (hl : ∀ s σ' H', Pv s σ' H' → SqL K H' a (ys.map f)) (h0 : Pv s0 σ H)
    (hs : ∀ s y σ' H', y ∈ ys → s.length + (e y).length ≤ B → Pv s σ' H' → g (f y) σ' H' fun σ2 H2 => tb { D with nx := fun σ3 H3 => Pv (s ++ e y) σ3 H3, ct := fun σ3 H3 => Pv (s ++ e y) σ3 H3, bk := D.nx } σ2 H2)
    (hn : ∀ σ' H', Pv (s0 ++ ys.flatMap e) σ' H' → D.nx σ' H') : FL K g tb D (.ref a) σ H := by
  refine fl_use h (fun i σ' H' => Pv (s0 ++ (ys.take i).flatMap e) σ' H') (by simpa using h0) (fun i σ' H' _ p => hl _ σ' H' p) (fun i x σ' H' e2 p => ?_) fun σ' H' p => ?_
  · rw [List.getElem?_map] at e2
    cases e3 : ys[i]? with
    | none => rw [e3] at e2; cases e2
    | some y =>
      rw [e3] at e2
      cases e2
      have e4 : s0 ++ (ys.take (i + 1)).flatMap e = (s0 ++ (ys.take i).flatMap e) ++ e y := by rw [List.take_add_one, e3, List.flatMap_append, List.append_assoc]; simp
      rw [e4]
      refine hs _ y σ' H' (List.mem_of_getElem? e3) ?_ p
      have e5 : (ys.take (i + 1)).flatMap e ++ (ys.drop (i + 1)).flatMap e = ys.flatMap e := by rw [← List.flatMap_append, List.take_append_drop]
      have e6 := congrArg List.length e4
      have e7 := congrArg List.length e5
      simp only [List.length_append] at *
      omega
  · rw [List.length_map, List.take_length] at p
    exact hn σ' H' p
end
/-! ### isinstance -/
section
variable {K : PySem.W.Frag} {H : Hp} {Q : VK} {i : Int} {b : Bool} {z : Str} {a : Addr} {xs : List V}
theorem c_isi {x : V} {t : Value} {n : String} {b : Bool} (ty : TyX K H x t) (e : PySem.W.kitOne K t (.type n) = some b) (k : Q (.bl b) H) : rIsi K [x, .ty n] H Q := ⟨x, .ty n, t, .type n, b, rfl, .ty n, ty, e, k⟩
theorem isi_int_int (k : Q (.bl true) H) : rIsi K [.int i, .ty "int"] H Q := c_isi (.base (.int _)) (kit_ty (by decide +kernel)) k
theorem isi_int_bool (k : Q (.bl false) H) : rIsi K [.int i, .ty "bool"] H Q := c_isi (.base (.int _)) (kit_ty (by decide +kernel)) k
theorem isi_int_tuple (k : Q (.bl false) H) : rIsi K [.int i, .ty "tuple"] H Q := c_isi (.base (.int _)) (kit_ty (by decide +kernel)) k
theorem isi_int_list (k : Q (.bl false) H) : rIsi K [.int i, .ty "list"] H Q := c_isi (.base (.int _)) (kit_ty (by decide +kernel)) k
theorem isi_int_str (k : Q (.bl false) H) : rIsi K [.int i, .ty "str"] H Q := c_isi (.base (.int _)) (kit_ty (by decide +kernel)) k
theorem isi_bl_int (k : Q (.bl true) H) : rIsi K [.bl b, .ty "int"] H Q := c_isi (.base (.bl _)) (kit_ty (by decide +kernel)) k
theorem isi_bl_bool (k : Q (.bl true) H) : rIsi K [.bl b, .ty "bool"] H Q := c_isi (.base (.bl _)) (kit_ty (by decide +kernel)) k
theorem isi_bl_tuple (k : Q (.bl false) H) : rIsi K [.bl b, .ty "tuple"] H Q := c_isi (.base (.bl _)) (kit_ty (by decide +kernel)) k
theorem isi_bl_list (k : Q (.bl false) H) : rIsi K [.bl b, .ty "list"] H Q := c_isi (.base (.bl _)) (kit_ty (by decide +kernel)) k
theorem isi_bl_str (k : Q (.bl false) H) : rIsi K [.bl b, .ty "str"] H Q := c_isi (.base (.bl _)) (kit_ty (by decide +kernel)) k
theorem isi_str_int (k : Q (.bl false) H) : rIsi K [.str z, .ty "int"] H Q := c_isi (.base (.str _)) (kit_ty (by decide +kernel)) k
theorem isi_str_bool (k : Q (.bl false) H) : rIsi K [.str z, .ty "bool"] H Q := c_isi (.base (.str _)) (kit_ty (by decide +kernel)) k
theorem isi_str_tuple (k : Q (.bl false) H) : rIsi K [.str z, .ty "tuple"] H Q := c_isi (.base (.str _)) (kit_ty (by decide +kernel)) k
theorem isi_str_list (k : Q (.bl false) H) : rIsi K [.str z, .ty "list"] H Q := c_isi (.base (.str _)) (kit_ty (by decide +kernel)) k
theorem isi_str_str (k : Q (.bl true) H) : rIsi K [.str z, .ty "str"] H Q := c_isi (.base (.str _)) (kit_ty (by decide +kernel)) k
theorem tyx_t (h : SqT K H a xs) : TyX K H (.ref a) (.type "tuple") := by
  rcases h with (h | ⟨o, h⟩) | ⟨o, its, n, h, c, _⟩
  · exact .base (.tup h)
  · exact .fTuple h
  · exact .kTuple h c
theorem tyx_l (h : SqL K H a xs) : TyX K H (.ref a) (.type "list") := by
  rcases h with (h | ⟨o, h⟩) | ⟨o, its, n, h, c, _⟩
  · exact .base (.lst h)
  · exact .base (.frz h)
  · exact .kList h c
theorem isi_t_tuple (h : SqT K H a xs) (k : Q (.bl true) H) : rIsi K [.ref a, .ty "tuple"] H Q := c_isi (tyx_t h) (kit_ty (by decide +kernel)) k
theorem isi_t_list (h : SqT K H a xs) (k : Q (.bl false) H) : rIsi K [.ref a, .ty "list"] H Q := c_isi (tyx_t h) (kit_ty (by decide +kernel)) k
theorem isi_t_int (h : SqT K H a xs) (k : Q (.bl false) H) : rIsi K [.ref a, .ty "int"] H Q := c_isi (tyx_t h) (kit_ty (by decide +kernel)) k
theorem isi_t_bool (h : SqT K H a xs) (k : Q (.bl false) H) : rIsi K [.ref a, .ty "bool"] H Q := c_isi (tyx_t h) (kit_ty (by decide +kernel)) k
theorem isi_t_str (h : SqT K H a xs) (k : Q (.bl false) H) : rIsi K [.ref a, .ty "str"] H Q := c_isi (tyx_t h) (kit_ty (by decide +kernel)) k
theorem isi_l_tuple (h : SqL K H a xs) (k : Q (.bl false) H) : rIsi K [.ref a, .ty "tuple"] H Q := c_isi (tyx_l h) (kit_ty (by decide +kernel)) k
theorem isi_l_list (h : SqL K H a xs) (k : Q (.bl true) H) : rIsi K [.ref a, .ty "list"] H Q := c_isi (tyx_l h) (kit_ty (by decide +kernel)) k
theorem isi_l_int (h : SqL K H a xs) (k : Q (.bl false) H) : rIsi K [.ref a, .ty "int"] H Q := c_isi (tyx_l h) (kit_ty (by decide +kernel)) k
theorem isi_l_bool (h : SqL K H a xs) (k : Q (.bl false) H) : rIsi K [.ref a, .ty "bool"] H Q := c_isi (tyx_l h) (kit_ty (by decide +kernel)) k
theorem isi_l_str (h : SqL K H a xs) (k : Q (.bl false) H) : rIsi K [.ref a, .ty "str"] H Q := c_isi (tyx_l h) (kit_ty (by decide +kernel)) k
theorem isi_non_int (k : Q (.bl false) H) : rIsi K [.non, .ty "int"] H Q := c_isi (.base .non) (kit_ty (by decide +kernel)) k
theorem isi_non_bool (k : Q (.bl false) H) : rIsi K [.non, .ty "bool"] H Q := c_isi (.base .non) (kit_ty (by decide +kernel)) k
theorem isi_non_tuple (k : Q (.bl false) H) : rIsi K [.non, .ty "tuple"] H Q := c_isi (.base .non) (kit_ty (by decide +kernel)) k
theorem isi_non_list (k : Q (.bl false) H) : rIsi K [.non, .ty "list"] H Q := c_isi (.base .non) (kit_ty (by decide +kernel)) k
theorem isi_non_str (k : Q (.bl false) H) : rIsi K [.non, .ty "str"] H Q := c_isi (.base .non) (kit_ty (by decide +kernel)) k
end
/-! ### lists of ints compared, summed -/
section
variable {K : PySem.W.Frag} {H : Hp} {Q : VK} {a b : Addr} {xs ys : List V} {ns ms : List Int}
theorem shaped_ints : ∀ ns : List Int, PyData.canLayAll0 (ns.map PyData.int) = true ∧ PyData.depthAll (ns.map PyData.int) = 0
  | [] => ⟨rfl, rfl⟩
  | n :: ns => by
    have h := shaped_ints ns
    simp only [List.map_cons, PyData.canLayAll0, PyData.canLay0, PyData.depthAll, PyData.depth, h.1, h.2]
    exact ⟨rfl, rfl⟩
theorem shaped_listI (ns : List Int) : SeqAt.shaped (.list (ns.map PyData.int)) = true := by
  have h := shaped_ints ns
  unfold SeqAt.shaped
  simp [PyData.canLay0, PyData.depth, h.1, h.2]
theorem eqv_ints : ∀ ns ms : List Int, PyData.eqvAll (ns.map PyData.int) (ms.map PyData.int) = decide (ns = ms)
  | [], [] => by simp [PyData.eqvAll]
  | [], _ :: _ => by simp [PyData.eqvAll]
  | _ :: _, [] => by simp [PyData.eqvAll]
  | n :: ns, m :: ms => by
    simp only [List.map_cons, PyData.eqvAll, PyData.eqv, eqv_ints ns ms]
    by_cases h : n = m <;> simp [h]
theorem c_eqLI (ha : SqL K H a xs) (hb : SqL K H b ys) (ea : xs = ns.map V.int) (eb : ys = ms.map V.int) (k : Q (.bl (decide (ns = ms))) H) : rEqD K (.ref a) (.ref b) H Q := by
  subst ea eb
  refine ⟨.list (ns.map .int), .list (ms.map .int), .lst ha (DpAll.ints ns), .lst hb (DpAll.ints ms), shaped_listI ns, shaped_listI ms, ?_⟩
  have e : PyData.eqv (.list (ns.map .int)) (.list (ms.map .int)) = decide (ns = ms) := by
    simp only [PyData.eqv]
    exact eqv_ints ns ms
  rw [e]
  exact k
theorem c_sum (h : SqL K H a xs) (e : xs = ns.map V.int) (k : Q (.int ns.sum) H) : rSum K [.ref a] H Q := by
  subst e
  exact ⟨a, ns, rfl, h, k⟩
end
theorem atI_zero {x : V} {xs : List V} : atI (x :: xs) 0 = some x := by
  show atI (x :: xs) ((0 : Nat) : Int) = some x
  exact atI_nat rfl
/-! ### slices -/
theorem cutV_take {xs : List V} {j : Int} (h : 0 ≤ j) : cutV xs none (some j) = xs.take j.toNat := by
  have e : HT.sIx xs.length xs.length (some j) = min j.toNat xs.length := by
    show (if j < 0 then (j + (xs.length : Int)).toNat else min j.toNat xs.length) = min j.toNat xs.length
    rw [if_neg (by omega)]
  unfold cutV
  rw [e]
  show (xs.drop 0).take (min j.toNat xs.length - 0) = xs.take j.toNat
  rw [List.drop_zero, Nat.sub_zero]
  by_cases g : j.toNat ≤ xs.length
  · rw [Nat.min_eq_left g]
  · rw [Nat.min_eq_right (by omega), List.take_of_length_le (Nat.le_refl _), List.take_of_length_le (by omega)]
theorem cutV_drop {xs : List V} {j : Int} (h : 0 ≤ j) : cutV xs (some j) none = xs.drop j.toNat := by
  have e : HT.sIx xs.length 0 (some j) = min j.toNat xs.length := by
    show (if j < 0 then (j + (xs.length : Int)).toNat else min j.toNat xs.length) = min j.toNat xs.length
    rw [if_neg (by omega)]
  unfold cutV
  rw [e]
  show (xs.drop (min j.toNat xs.length)).take (xs.length - min j.toNat xs.length) = xs.drop j.toNat
  by_cases g : j.toNat ≤ xs.length
  · rw [Nat.min_eq_left g, List.take_of_length_le (by rw [List.length_drop]; omega)]
  · rw [Nat.min_eq_right (by omega), List.drop_of_length_le (Nat.le_refl _), List.drop_of_length_le (by omega)]; simp
/-! ### ends -/
theorem sqt_is {K : PySem.W.Frag} {H : Hp} {a : Addr} {xs ys : List V} (h : SqT K H a xs) (e : xs = ys) : SqT K H a ys := e ▸ h
theorem lst_is {H : Hp} {a : Addr} {xs ys : List V} (h : H a = some (.lst xs)) (e : xs = ys) : H a = some (.lst ys) := e ▸ h
section
variable {Q : VK} {H : Hp}
theorem q_int {a b : Int} (k : Q (.int a) H) (e : a = b) : Q (.int b) H := e ▸ k
theorem q_bl {a b : Bool} (k : Q (.bl a) H) (e : a = b) : Q (.bl b) H := e ▸ k
theorem q_str {a b : Str} (k : Q (.str a) H) (e : a = b) : Q (.str b) H := e ▸ k
end
/-! ### small words -/
theorem fm {a b : Int} (h : 0 < b) : 0 ≤ a.fmod b ∧ a.fmod b < b := by
  rw [Int.fmod_eq_emod_of_nonneg _ (by omega)]
  exact ⟨Int.emod_nonneg _ (by omega), Int.emod_lt_of_pos _ h⟩
theorem cmul_fm {a b j : Int} (h : 0 < b) (h' : b ≤ 2 ^ 64) : CMul (a.fmod b) j := by
  have := fm (a := a) h
  exact .inl ⟨by omega, by omega⟩
theorem sz_small {n : Nat} (h : n ≤ 10000000) : n ≤ sizeLine := Nat.le_trans h (by rw [sizeLine_eq]; decide)
theorem sz_smallL {n : Nat} (h : n < 10000000) : n < sizeLine := Nat.lt_of_lt_of_le h (by rw [sizeLine_eq]; decide)

theorem mut_l {H : Hp} {a : Addr} {xs : List V} (h : H a = some (.lst xs)) : Mut (H a) := by rw [h]; exact trivial
theorem mut_i {H : Hp} {a C dx : Addr} {fs : List (Str × V)} (h : H a = some (.ins C dx fs)) : Mut (H a) := by rw [h]; exact trivial
theorem mut_d {H : Hp} {a : Addr} {kvs : List (Key × V)} (h : H a = some (.dK kvs)) : Mut (H a) := by rw [h]; exact trivial
/-! ### the steps as equations, for simp -/
section
variable {K : PySem.W.Frag} {σ : L2.St} {H : Hp} {Q : VK} {QT : Bool → Hp → Prop} {QA : List V → Hp → Prop} {v x y : V} {i j : Int} {n : Nat} {ta tb tc te : TE} {tt tu : TT} {tr : TA} {D : Ends} {t u w : TS}
theorem e_var0 {r : L2.St} : tVar 0 (some v :: r) H Q = Q v H := propext ⟨fun h => h.elim fun _ h => by cases h.1; exact h.2, fun h => ⟨v, rfl, h⟩⟩
theorem e_var1 {a0 : Option V} {r : L2.St} : tVar 1 (a0 :: some v :: r) H Q = Q v H := propext ⟨fun h => h.elim fun _ h => by cases h.1; exact h.2, fun h => ⟨v, rfl, h⟩⟩
theorem e_var2 {a0 a1 : Option V} {r : L2.St} : tVar 2 (a0 :: a1 :: some v :: r) H Q = Q v H := propext ⟨fun h => h.elim fun _ h => by cases h.1; exact h.2, fun h => ⟨v, rfl, h⟩⟩
theorem e_var3 {a0 a1 a2 : Option V} {r : L2.St} : tVar 3 (a0 :: a1 :: a2 :: some v :: r) H Q = Q v H := propext ⟨fun h => h.elim fun _ h => by cases h.1; exact h.2, fun h => ⟨v, rfl, h⟩⟩
theorem e_var4 {a0 a1 a2 a3 : Option V} {r : L2.St} : tVar 4 (a0 :: a1 :: a2 :: a3 :: some v :: r) H Q = Q v H := propext ⟨fun h => h.elim fun _ h => by cases h.1; exact h.2, fun h => ⟨v, rfl, h⟩⟩
theorem e_var5 {a0 a1 a2 a3 a4 : Option V} {r : L2.St} : tVar 5 (a0 :: a1 :: a2 :: a3 :: a4 :: some v :: r) H Q = Q v H := propext ⟨fun h => h.elim fun _ h => by cases h.1; exact h.2, fun h => ⟨v, rfl, h⟩⟩
theorem e_var6 {a0 a1 a2 a3 a4 a5 : Option V} {r : L2.St} : tVar 6 (a0 :: a1 :: a2 :: a3 :: a4 :: a5 :: some v :: r) H Q = Q v H := propext ⟨fun h => h.elim fun _ h => by cases h.1; exact h.2, fun h => ⟨v, rfl, h⟩⟩
theorem e_var7 {a0 a1 a2 a3 a4 a5 a6 : Option V} {r : L2.St} : tVar 7 (a0 :: a1 :: a2 :: a3 :: a4 :: a5 :: a6 :: some v :: r) H Q = Q v H := propext ⟨fun h => h.elim fun _ h => by cases h.1; exact h.2, fun h => ⟨v, rfl, h⟩⟩
theorem e_var8 {a0 a1 a2 a3 a4 a5 a6 a7 : Option V} {r : L2.St} : tVar 8 (a0 :: a1 :: a2 :: a3 :: a4 :: a5 :: a6 :: a7 :: some v :: r) H Q = Q v H := propext ⟨fun h => h.elim fun _ h => by cases h.1; exact h.2, fun h => ⟨v, rfl, h⟩⟩
theorem e_var9 {a0 a1 a2 a3 a4 a5 a6 a7 a8 : Option V} {r : L2.St} : tVar 9 (a0 :: a1 :: a2 :: a3 :: a4 :: a5 :: a6 :: a7 :: a8 :: some v :: r) H Q = Q v H := propext ⟨fun h => h.elim fun _ h => by cases h.1; exact h.2, fun h => ⟨v, rfl, h⟩⟩
theorem e_var10 {a0 a1 a2 a3 a4 a5 a6 a7 a8 a9 : Option V} {r : L2.St} : tVar 10 (a0 :: a1 :: a2 :: a3 :: a4 :: a5 :: a6 :: a7 :: a8 :: a9 :: some v :: r) H Q = Q v H := propext ⟨fun h => h.elim fun _ h => by cases h.1; exact h.2, fun h => ⟨v, rfl, h⟩⟩
theorem e_var11 {a0 a1 a2 a3 a4 a5 a6 a7 a8 a9 a10 : Option V} {r : L2.St} : tVar 11 (a0 :: a1 :: a2 :: a3 :: a4 :: a5 :: a6 :: a7 :: a8 :: a9 :: a10 :: some v :: r) H Q = Q v H := propext ⟨fun h => h.elim fun _ h => by cases h.1; exact h.2, fun h => ⟨v, rfl, h⟩⟩
theorem e_var12 {a0 a1 a2 a3 a4 a5 a6 a7 a8 a9 a10 a11 : Option V} {r : L2.St} : tVar 12 (a0 :: a1 :: a2 :: a3 :: a4 :: a5 :: a6 :: a7 :: a8 :: a9 :: a10 :: a11 :: some v :: r) H Q = Q v H := propext ⟨fun h => h.elim fun _ h => by cases h.1; exact h.2, fun h => ⟨v, rfl, h⟩⟩
theorem e_var13 {a0 a1 a2 a3 a4 a5 a6 a7 a8 a9 a10 a11 a12 : Option V} {r : L2.St} : tVar 13 (a0 :: a1 :: a2 :: a3 :: a4 :: a5 :: a6 :: a7 :: a8 :: a9 :: a10 :: a11 :: a12 :: some v :: r) H Q = Q v H := propext ⟨fun h => h.elim fun _ h => by cases h.1; exact h.2, fun h => ⟨v, rfl, h⟩⟩
theorem e_var14 {a0 a1 a2 a3 a4 a5 a6 a7 a8 a9 a10 a11 a12 a13 : Option V} {r : L2.St} : tVar 14 (a0 :: a1 :: a2 :: a3 :: a4 :: a5 :: a6 :: a7 :: a8 :: a9 :: a10 :: a11 :: a12 :: a13 :: some v :: r) H Q = Q v H := propext ⟨fun h => h.elim fun _ h => by cases h.1; exact h.2, fun h => ⟨v, rfl, h⟩⟩
theorem e_var15 {a0 a1 a2 a3 a4 a5 a6 a7 a8 a9 a10 a11 a12 a13 a14 : Option V} {r : L2.St} : tVar 15 (a0 :: a1 :: a2 :: a3 :: a4 :: a5 :: a6 :: a7 :: a8 :: a9 :: a10 :: a11 :: a12 :: a13 :: a14 :: some v :: r) H Q = Q v H := propext ⟨fun h => h.elim fun _ h => by cases h.1; exact h.2, fun h => ⟨v, rfl, h⟩⟩
theorem e_var16 {a0 a1 a2 a3 a4 a5 a6 a7 a8 a9 a10 a11 a12 a13 a14 a15 : Option V} {r : L2.St} : tVar 16 (a0 :: a1 :: a2 :: a3 :: a4 :: a5 :: a6 :: a7 :: a8 :: a9 :: a10 :: a11 :: a12 :: a13 :: a14 :: a15 :: some v :: r) H Q = Q v H := propext ⟨fun h => h.elim fun _ h => by cases h.1; exact h.2, fun h => ⟨v, rfl, h⟩⟩
theorem e_var17 {a0 a1 a2 a3 a4 a5 a6 a7 a8 a9 a10 a11 a12 a13 a14 a15 a16 : Option V} {r : L2.St} : tVar 17 (a0 :: a1 :: a2 :: a3 :: a4 :: a5 :: a6 :: a7 :: a8 :: a9 :: a10 :: a11 :: a12 :: a13 :: a14 :: a15 :: a16 :: some v :: r) H Q = Q v H := propext ⟨fun h => h.elim fun _ h => by cases h.1; exact h.2, fun h => ⟨v, rfl, h⟩⟩
theorem e_var18 {a0 a1 a2 a3 a4 a5 a6 a7 a8 a9 a10 a11 a12 a13 a14 a15 a16 a17 : Option V} {r : L2.St} : tVar 18 (a0 :: a1 :: a2 :: a3 :: a4 :: a5 :: a6 :: a7 :: a8 :: a9 :: a10 :: a11 :: a12 :: a13 :: a14 :: a15 :: a16 :: a17 :: some v :: r) H Q = Q v H := propext ⟨fun h => h.elim fun _ h => by cases h.1; exact h.2, fun h => ⟨v, rfl, h⟩⟩
theorem e_var19 {a0 a1 a2 a3 a4 a5 a6 a7 a8 a9 a10 a11 a12 a13 a14 a15 a16 a17 a18 : Option V} {r : L2.St} : tVar 19 (a0 :: a1 :: a2 :: a3 :: a4 :: a5 :: a6 :: a7 :: a8 :: a9 :: a10 :: a11 :: a12 :: a13 :: a14 :: a15 :: a16 :: a17 :: a18 :: some v :: r) H Q = Q v H := propext ⟨fun h => h.elim fun _ h => by cases h.1; exact h.2, fun h => ⟨v, rfl, h⟩⟩
theorem e_var20 {a0 a1 a2 a3 a4 a5 a6 a7 a8 a9 a10 a11 a12 a13 a14 a15 a16 a17 a18 a19 : Option V} {r : L2.St} : tVar 20 (a0 :: a1 :: a2 :: a3 :: a4 :: a5 :: a6 :: a7 :: a8 :: a9 :: a10 :: a11 :: a12 :: a13 :: a14 :: a15 :: a16 :: a17 :: a18 :: a19 :: some v :: r) H Q = Q v H := propext ⟨fun h => h.elim fun _ h => by cases h.1; exact h.2, fun h => ⟨v, rfl, h⟩⟩
theorem e_var21 {a0 a1 a2 a3 a4 a5 a6 a7 a8 a9 a10 a11 a12 a13 a14 a15 a16 a17 a18 a19 a20 : Option V} {r : L2.St} : tVar 21 (a0 :: a1 :: a2 :: a3 :: a4 :: a5 :: a6 :: a7 :: a8 :: a9 :: a10 :: a11 :: a12 :: a13 :: a14 :: a15 :: a16 :: a17 :: a18 :: a19 :: a20 :: some v :: r) H Q = Q v H := propext ⟨fun h => h.elim fun _ h => by cases h.1; exact h.2, fun h => ⟨v, rfl, h⟩⟩
theorem e_var22 {a0 a1 a2 a3 a4 a5 a6 a7 a8 a9 a10 a11 a12 a13 a14 a15 a16 a17 a18 a19 a20 a21 : Option V} {r : L2.St} : tVar 22 (a0 :: a1 :: a2 :: a3 :: a4 :: a5 :: a6 :: a7 :: a8 :: a9 :: a10 :: a11 :: a12 :: a13 :: a14 :: a15 :: a16 :: a17 :: a18 :: a19 :: a20 :: a21 :: some v :: r) H Q = Q v H := propext ⟨fun h => h.elim fun _ h => by cases h.1; exact h.2, fun h => ⟨v, rfl, h⟩⟩
theorem e_var23 {a0 a1 a2 a3 a4 a5 a6 a7 a8 a9 a10 a11 a12 a13 a14 a15 a16 a17 a18 a19 a20 a21 a22 : Option V} {r : L2.St} : tVar 23 (a0 :: a1 :: a2 :: a3 :: a4 :: a5 :: a6 :: a7 :: a8 :: a9 :: a10 :: a11 :: a12 :: a13 :: a14 :: a15 :: a16 :: a17 :: a18 :: a19 :: a20 :: a21 :: a22 :: some v :: r) H Q = Q v H := propext ⟨fun h => h.elim fun _ h => by cases h.1; exact h.2, fun h => ⟨v, rfl, h⟩⟩
theorem e_c : tC v σ H Q = (Q v H) := rfl
theorem e_op {r : R2} : tOp r ta tb σ H Q = (ta σ H fun x H1 => tb σ H1 fun y H2 => r x y H2 Q) := rfl
theorem e_un {r : V → Hp → VK → Prop} : tUn r ta σ H Q = (ta σ H fun x H1 => r x H1 Q) := rfl
theorem e_test : tTest te σ H QT = (te σ H fun x H' => ∃ k, x = .bl k ∧ QT k H') := rfl
theorem e_B : tB te σ H QT = (te σ H fun x H' => ∃ k, x = .bl k ∧ QT k H') := rfl
theorem e_tru : tTru K te σ H QT = (te σ H fun x H' => ∃ k, TruV K x H' k ∧ QT k H') := rfl
theorem e_notT : tNot tt σ H QT = (tt σ H fun c H1 => QT (!c) H1) := rfl
theorem e_andV : tAndV ta tb σ H Q = (ta σ H fun x H1 => ∃ c, x = .bl c ∧ if c = true then tb σ H1 Q else Q (.bl false) H1) := rfl
theorem e_orV : tOrV ta tb σ H Q = (ta σ H fun x H1 => ∃ c, x = .bl c ∧ if c = true then Q (.bl true) H1 else tb σ H1 Q) := rfl
theorem e_notV : tNotV ta σ H Q = (ta σ H fun x H1 => ∃ c, x = .bl c ∧ Q (.bl (!c)) H1) := rfl
theorem e_if : tIf tt ta tb σ H Q = (tt σ H fun c H1 => if c = true then ta σ H1 Q else tb σ H1 Q) := rfl
theorem e_nil : tNil σ H QA = (QA [] H) := rfl
theorem e_cons : tCons ta tr σ H QA = (ta σ H fun x H1 => tr σ H1 fun xs H2 => QA (x :: xs) H2) := rfl
theorem e_CB {r : List V → Hp → VK → Prop} : tCB r tr σ H Q = (tr σ H fun vs H1 => r vs H1 Q) := rfl
theorem e_call {sp : Sp} {dvs : List V} {E : XK} : tCall sp dvs E tr σ H Q = (tr σ H fun vs H1 => sp (vs ++ dvs) H1 Q E) := rfl
theorem e_seqAsg : tSeq (tAsg te (gName n)) u D σ H = (te σ H fun x H1 => u D (σ.set n (some x)) H1) := rfl
theorem e_seqWhen : tSeq (tIfS tt t tNext) u D σ H = (tt σ H fun b H1 => if b = true then t { D with nx := u D } σ H1 else u D σ H1) := rfl
theorem e_seqIf : tSeq (tIfS tt t w) u D σ H = (tt σ H fun b H1 => if b = true then t { D with nx := u D } σ H1 else w { D with nx := u D } σ H1) := rfl
theorem e_seqDrop : tSeq (tDrop te) u D σ H = (te σ H fun _ H1 => u D σ H1) := rfl
theorem e_seq : tSeq t u D σ H = (t { D with nx := u D } σ H) := rfl
theorem e_ifS : tIfS tt t w D σ H = (tt σ H fun b H1 => if b = true then t D σ H1 else w D σ H1) := rfl
theorem e_ret : tRet te D σ H = (te σ H D.rt) := rfl
theorem e_retN : tRetN D σ H = (D.rt .non H) := rfl
theorem e_asgN : tAsg te (gName n) D σ H = (te σ H fun x H1 => D.nx (σ.set n (some x)) H1) := rfl
theorem e_asg {g : TG} : tAsg te g D σ H = (te σ H fun x H1 => g x σ H1 D.nx) := rfl
theorem e_drop : tDrop te D σ H = (te σ H fun _ H1 => D.nx σ H1) := rfl
theorem e_next : tNext D σ H = (D.nx σ H) := rfl
theorem e_break : tBreak D σ H = (D.bk σ H) := rfl
theorem e_cont : tCont D σ H = (D.ct σ H) := rfl
theorem e_tup : tTup tr σ H Q = (tr σ H fun xs H1 => xs.length ≤ sizeLine ∧ NewO (.tup xs) Q H1) := rfl
theorem e_lst : tLst tr σ H Q = (tr σ H fun xs H1 => xs.length ≤ sizeLine ∧ NewO (.lst xs) Q H1) := rfl
theorem e_gSub {to ti : TE} {ts : TSet} {QS : L2.St → Hp → Prop} : gSub to ti ts v σ H QS = (to σ H fun o H1 => ti σ H1 fun i H2 => ts o i v H2 fun H3 => QS σ H3) := rfl
theorem e_BM {T : String} {r : V → List V → Hp → VK → Prop} : tBM K T r te tr σ H Q = (te σ H fun x H1 => tyV K T x H1 ∧ tr σ H1 fun xs H2 => r x xs H2 Q) := rfl
theorem e_BM0 {T : String} {r : V → List V → Hp → VK → Prop} : tBM0 K T r te σ H Q = (te σ H fun x H1 => tyV K T x H1 ∧ r x [] H1 Q) := rfl
theorem e_sl {r : V → Option Int → Option Int → Hp → VK → Prop} {tl th : TO} : tSl r te tl th σ H Q = (te σ H fun x H1 => tl σ H1 fun l H2 => th σ H2 fun u H3 => r x l u H3 Q) := rfl
theorem e_noPart {QO : Option Int → Hp → Prop} : tNoPart σ H QO = (QO none H) := rfl
theorem e_part {QO : Option Int → Hp → Prop} : tPart te σ H QO = (te σ H fun x H1 => ∃ i, x = .int i ∧ QO (some i) H1) := rfl
theorem e_gName {QS : L2.St → Hp → Prop} : gName n v σ H QS = (QS (σ.set n (some v)) H) := rfl
theorem e_forL {tl : TE} {g : TG} : tFor (iList K tl) g t D σ H = (tl σ H fun x H1 => FL K g t D x σ H1) := rfl
theorem e_forT {tl : TE} {g : TG} : tFor (iTup K tl) g t D σ H = (tl σ H fun x H1 => FT K g t D x σ H1) := rfl
theorem e_par {i j : Nat} : tPar i j tr D σ H = (tr σ H fun vs H1 => ∃ v w, vs = [v, w] ∧ D.nx ((σ.set i (some v)).set j (some w)) H1) := rfl
theorem e_forR1 {g : TG} : tFor (iRng1 tr) g t D σ H = (tr σ H fun vs H1 => ∃ j : Int, vs = [.int j] ∧ bnd62 j ∧ FR g t D 0 j.toNat σ H1) := by
  have e : (fun (vs : List V) (H1 : Hp) => ∃ j : Int, vs = [V.int j] ∧ bnd62 j ∧ FR g t D 0 j.toNat σ H1) = fun vs H1 => ∃ j : Int, vs = [.int j] ∧ -(2 ^ 62) ≤ j ∧ j < 2 ^ 62 ∧ FR g t D 0 j.toNat σ H1 := by
    funext vs H1
    simp only [bnd62, and_assoc]
  rw [e]
  rfl
theorem e_forR2 {g : TG} : tFor (iRng2 tr) g t D σ H = (tr σ H fun vs H1 => ∃ i j : Int, vs = [.int i, .int j] ∧ (bnd62 i ∧ bnd62 j) ∧ FR g t D i (j - i).toNat σ H1) := by
  have e : (fun (vs : List V) (H1 : Hp) => ∃ i j : Int, vs = [V.int i, V.int j] ∧ (bnd62 i ∧ bnd62 j) ∧ FR g t D i (j - i).toNat σ H1) = fun vs H1 => ∃ i j : Int, vs = [.int i, .int j] ∧ (-(2 ^ 62) ≤ i ∧ i < 2 ^ 62 ∧ -(2 ^ 62) ≤ j ∧ j < 2 ^ 62) ∧ FR g t D i (j - i).toNat σ H1 := by
    funext vs H1
    simp only [bnd62, and_assoc]
  rw [e]
  rfl
theorem e_ex1 {P : Int → Prop} : (∃ j : Int, [V.int i] = [.int j] ∧ P j) = (P i) := propext ⟨fun ⟨_, e, h⟩ => by cases e; exact h, fun h => ⟨i, rfl, h⟩⟩
theorem e_ex2 {P : Int → Int → Prop} : (∃ i' j' : Int, [V.int i, V.int j] = [.int i', .int j'] ∧ P i' j') = (P i j) := propext ⟨fun ⟨_, _, e, h⟩ => by cases e; exact h, fun h => ⟨i, j, rfl, h⟩⟩
theorem c_bnd1 {B : Prop} (h : bnd62 i) (k : B) : bnd62 i ∧ B := ⟨h, k⟩
theorem c_bnd2 {B : Prop} (h : bnd62 i) (h' : bnd62 j) (k : B) : (bnd62 i ∧ bnd62 j) ∧ B := ⟨⟨h, h'⟩, k⟩
theorem e_I0 {g : Int → Int → V} : rI0 g (.int i) (.int j) H Q = (Q (g i j) H) := propext ⟨fun ⟨_, _, e, e2, h⟩ => by cases e; cases e2; exact h, fun h => ⟨i, j, rfl, rfl, h⟩⟩
theorem e_I {C : Int → Int → Prop} {g : Int → Int → V} : rI C g (.int i) (.int j) H Q = (C i j ∧ Q (g i j) H) := propext ⟨fun ⟨_, _, e, e2, c, h⟩ => by cases e; cases e2; exact ⟨c, h⟩, fun h => ⟨i, j, rfl, rfl, h.1, h.2⟩⟩
theorem e_U {g : Int → V} : rU g (.int i) H Q = (Q (g i) H) := propext ⟨fun ⟨_, e, h⟩ => by cases e; exact h, fun h => ⟨i, rfl, h⟩⟩
theorem e_bl {b : Bool} {P : Bool → Prop} : (∃ k, V.bl b = .bl k ∧ P k) = (P b) := propext ⟨fun ⟨_, e, h⟩ => by cases e; exact h, fun h => ⟨b, rfl, h⟩⟩
theorem e_exI {P : Int → Prop} : (∃ k, V.int i = .int k ∧ P k) = (P i) := propext ⟨fun ⟨_, e, h⟩ => by cases e; exact h, fun h => ⟨i, rfl, h⟩⟩
theorem e_eqI : rEq (.int i) (.int j) H Q = (Q (.bl (decide (i = j))) H) := by unfold rEq; simp [scal]
theorem e_neI : rNe (.int i) (.int j) H Q = (Q (.bl (!decide (i = j))) H) := by unfold rNe; simp [scal]
theorem e_eqS {a b : Str} : rEq (.str a) (.str b) H Q = (Q (.bl (decide (a = b))) H) := by unfold rEq; simp [scal]
theorem e_neS {a b : Str} : rNe (.str a) (.str b) H Q = (Q (.bl (!decide (a = b))) H) := by unfold rNe; simp [scal]
theorem e_eqB {a b : Bool} : rEq (.bl a) (.bl b) H Q = (Q (.bl (decide (a = b))) H) := by unfold rEq; simp [scal]
theorem e_neB {a b : Bool} : rNe (.bl a) (.bl b) H Q = (Q (.bl (!decide (a = b))) H) := by unfold rNe; simp [scal]
theorem e_eqIS {a : Str} : rEq (.int i) (.str a) H Q = (Q (.bl false) H) := by unfold rEq; simp [scal]
theorem e_eqSI {a : Str} : rEq (.str a) (.int i) H Q = (Q (.bl false) H) := by unfold rEq; simp [scal]
theorem e_isN : rIsN x .non H Q = (Q (.bl (decide (x = .non))) H) := by unfold rIsN; simp
theorem e_notN : rNotN x .non H Q = (Q (.bl (!decide (x = .non))) H) := by unfold rNotN; simp
theorem e_int1 : rInt1 [.int i] H Q = (Q (.int i) H) := by unfold rInt1; simp
theorem e_int1b {b : Bool} : rInt1 [.bl b] H Q = (Q (.int (if b then 1 else 0)) H) := by unfold rInt1; simp
theorem e_bool1 : rBool1 [.int i] H Q = (Q (.bl (i != 0)) H) := by unfold rBool1; simp
theorem e_bool1b {b : Bool} : rBool1 [.bl b] H Q = (Q (.bl b) H) := by unfold rBool1; simp
theorem e_min2 : rMin2 [.int i, .int j] H Q = (Q (.int (min i j)) H) := by have e : (if j < i then j else i) = min i j := by { split <;> omega }; rw [← e]; exact propext ⟨fun ⟨_, _, e, h⟩ => by cases e; exact h, fun h => ⟨i, j, rfl, h⟩⟩
theorem e_max2 : rMax2 [.int i, .int j] H Q = (Q (.int (max i j)) H) := by have e : (if j > i then j else i) = max i j := by { split <;> omega }; rw [← e]; exact propext ⟨fun ⟨_, _, e, h⟩ => by cases e; exact h, fun h => ⟨i, j, rfl, h⟩⟩
theorem e_abs1 : rAbs1 [.int i] H Q = (Q (.int (if i < 0 then -i else i)) H) := by unfold rAbs1; simp
theorem e_iteT {A B : Prop} : (if true = true then A else B) = (A) := if_pos rfl
theorem e_iteF {A B : Prop} : (if false = true then A else B) = (B) := if_neg (by decide)
theorem e_truBl {b : Bool} {P : Bool → Prop} : (∃ k, TruV K (.bl b) H k ∧ P k) = (P b) := by simp [TruV]
theorem e_truInt {P : Bool → Prop} : (∃ k, TruV K (.int i) H k ∧ P k) = (P (i != 0)) := by simp [TruV]
theorem e_gNil {QS : L2.St → Hp → Prop} : gNil [] σ H QS = (QS σ H) := by unfold gNil; simp
theorem e_gCons {QS : L2.St → Hp → Prop} {g : TG} {gs : TGs} {vs : List V} : gCons g gs (v :: vs) σ H QS = (g v σ H fun σ' H' => gs vs σ' H' QS) := propext ⟨fun ⟨_, _, e, h⟩ => by cases e; exact h, fun h => ⟨v, vs, rfl, h⟩⟩
theorem e_ipI {f : Int → Int → Int} : ipI f (.int i) (.int j) H Q = (Q (.int (f i j)) H) := propext ⟨fun ⟨_, _, e, e2, h⟩ => by cases e; cases e2; exact h, fun h => ⟨i, j, rfl, rfl, h⟩⟩
theorem e_pairs {a b : V} {P : V → V → Prop} : (∃ v w, [a, b] = [v, w] ∧ P v w) = (P a b) := propext ⟨fun ⟨_, _, e, h⟩ => by cases e; exact h, fun h => ⟨a, b, rfl, h⟩⟩
end
end R
namespace R
open PySem PySem.Spec PyProof.Rows L2
/-! ### comprehensions -/
section
variable {K : PySem.W.Frag} {σ : L2.St} {H : Hp} {Q : VK} {g : TG} {tt : TT} {te tl : TE} {tr : TA} {vs : List Nat} {a : Addr}
/-- the loop of a comprehension over what J walks -/
def LC (J : It) (g : TG) (tt : TT) (te : TE) (vs : List Nat) (σ : L2.St) (Q : VK) (H : Hp) : Prop := ∀ D, H D = none → ∃ W : Nat → Nat → Hp → Prop, (∃ m, W 0 m (upd H D (.lst []))) ∧ ∀ i m H, W i m H →
  (J.stop i H ∧ Q (.ref D) H) ∨ (J.go i H ∧ ∃ Nx : Hp → Prop, (∀ H', Nx H' → ∃ m', m' < m ∧ W (i + 1) m' H') ∧ ∀ x H', J.yld i H x H' → g x (wipe σ vs) H' fun σ2 H2 => wipe σ2 vs = wipe σ vs ∧ tt σ2 H2 fun b H3 =>
    if b = true then te σ2 H3 fun y H4 => ∃ acc, H4 D = some (.lst acc) ∧ acc.length < sizeLine ∧ Nx (upd H4 D (.lst (acc ++ [y]))) else Nx H3)
def LCL (K : PySem.W.Frag) (g : TG) (tt : TT) (te : TE) (vs : List Nat) (σ : L2.St) (Q : VK) (x : V) (H : Hp) : Prop := ∃ a, x = .ref a ∧ (∃ xs, SqL K H a xs) ∧ LC (Itl K a) g tt te vs σ Q H
def LCT (K : PySem.W.Frag) (g : TG) (tt : TT) (te : TE) (vs : List Nat) (σ : L2.St) (Q : VK) (x : V) (H : Hp) : Prop := ∃ a, x = .ref a ∧ (∃ xs, SqT K H a xs) ∧ LC (Itt K a) g tt te vs σ Q H
theorem e_lcL : tLc (iList K tl) g tt te vs σ H Q = (tl σ H fun x H1 => LCL K g tt te vs σ Q x H1) := rfl
theorem e_lcT : tLc (iTup K tl) g tt te vs σ H Q = (tl σ H fun x H1 => LCT K g tt te vs σ Q x H1) := rfl
theorem e_lcR1 : tLc (iRng1 tr) g tt te vs σ H Q = (tr σ H fun us H1 => ∃ j : Int, us = [.int j] ∧ bnd62 j ∧ LC (Itr 0 j.toNat) g tt te vs σ Q H1) := by
  have e : (fun (us : List V) (H1 : Hp) => ∃ j : Int, us = [V.int j] ∧ bnd62 j ∧ LC (Itr 0 j.toNat) g tt te vs σ Q H1) = fun us H1 => ∃ j : Int, us = [.int j] ∧ -(2 ^ 62) ≤ j ∧ j < 2 ^ 62 ∧ LC (Itr 0 j.toNat) g tt te vs σ Q H1 := by
    funext us H1
    simp only [bnd62, and_assoc]
  rw [e]
  rfl
theorem e_lcR2 : tLc (iRng2 tr) g tt te vs σ H Q = (tr σ H fun us H1 => ∃ i j : Int, us = [.int i, .int j] ∧ (bnd62 i ∧ bnd62 j) ∧ LC (Itr i (j - i).toNat) g tt te vs σ Q H1) := by
  have e : (fun (us : List V) (H1 : Hp) => ∃ i j : Int, us = [V.int i, V.int j] ∧ (bnd62 i ∧ bnd62 j) ∧ LC (Itr i (j - i).toNat) g tt te vs σ Q H1) = fun us H1 => ∃ i j : Int, us = [.int i, .int j] ∧ (-(2 ^ 62) ≤ i ∧ i < 2 ^ 62 ∧ -(2 ^ 62) ≤ j ∧ j < 2 ^ 62) ∧ LC (Itr i (j - i).toNat) g tt te vs σ Q H1 := by
    funext us H1
    simp only [bnd62, and_assoc]
  rw [e]
  rfl
theorem e_yes {QT : Bool → Hp → Prop} : tYes σ H QT = (QT true H) := rfl
/-- what one turn gives: the item y is kept (f y) with a value that R tells, or not; it must go on whatever is wanted -/
def Turn (g : TG) (tt : TT) (te : TE) (vs : List Nat) (σ : L2.St) (x : V) (b : Bool) (R : V → Hp → Prop) (H : Hp) : Prop :=
  ∀ (Pv : V → Hp → Prop) (Pn : Hp → Prop), (b = true → ∀ v H', Same H H' → R v H' → Pv v H') → (b = false → ∀ H', Same H H' → Pn H') →
    g x (wipe σ vs) H fun σ2 H2 => wipe σ2 vs = wipe σ vs ∧ tt σ2 H2 fun b H3 => if b = true then te σ2 H3 Pv else Pn H3
/-- it does not depend on what may change -/
def Firm (R : V → Hp → Prop) : Prop := (∀ v H H', Same H H' → R v H → R v H') ∧ ∀ v l H H', Mut (H l) → Mu l H H' → R v H → R v H'
theorem firm_eq (w : V) : Firm fun v _ => v = w := ⟨fun _ _ _ _ h => h, fun _ _ _ _ _ _ h => h⟩
theorem firm_dp {d : PyData} (h : imm d = true) : Firm fun v H => Dp K H v d := ⟨fun _ _ _ e p => Dp.same e p, fun _ _ _ _ m e p => Dp.mu e m h p⟩
theorem mut_lst {D : Addr} {xs : List V} (h : H D = some (.lst xs)) : Mut (H D) := by rw [h]; exact trivial
/-- the values so far -/
def Accd {α : Type} (f : α → Bool) (R : α → V → Hp → Prop) (ys : List α) (acc : List V) (H : Hp) : Prop := Paired (fun y v => R y v H) (ys.filter f) acc
theorem Paired.app {α β : Type} {F : α → β → Prop} : ∀ {l1 l2 : List α} {m1 m2 : List β}, Paired F l1 m1 → Paired F l2 m2 → Paired F (l1 ++ l2) (m1 ++ m2)
  | _, _, _, _, .nil, s => s
  | _, _, _, _, .cons r t, s => .cons r (Paired.app t s)
theorem Accd.len {α : Type} {f : α → Bool} {R : α → V → Hp → Prop} {ys : List α} {acc : List V} (h : Accd f R ys acc H) : acc.length ≤ ys.length := by
  have := Paired.length h
  have := List.length_filter_le f ys
  omega
theorem turn_go {α : Type} {f : α → Bool} {R : α → V → Hp → Prop} (hR : ∀ y, Firm (R y)) {ys : List α} {y : α} {acc : List V} {x : V} {D : Addr} {H0 H1 : Hp} (hz : ys.length < 10000000)
    (h0 : H0 D = none) (hS : Same H0 H1) (hD : H1 D = some (.lst acc)) (hA : Accd f R ys acc H1) (ht : Turn g tt te vs σ x (f y) (R y) H1) :
    g x (wipe σ vs) H1 fun σ2 H2 => wipe σ2 vs = wipe σ vs ∧ tt σ2 H2 fun b H3 => if b = true then te σ2 H3 fun v H4 => ∃ acc, H4 D = some (.lst acc) ∧ acc.length < sizeLine ∧
      (Same H0 (upd H4 D (.lst (acc ++ [v]))) ∧ ∃ acc', upd H4 D (.lst (acc ++ [v])) D = some (.lst acc') ∧ Accd f R (ys ++ [y]) acc' (upd H4 D (.lst (acc ++ [v])))) else
      (Same H0 H3 ∧ ∃ acc', H3 D = some (.lst acc') ∧ Accd f R (ys ++ [y]) acc' H3) := by
  refine ht _ _ (fun hf v H4 hS4 hv => ?_) fun hf H3 hS3 => ?_
  · have hD4 := hS4 _ _ hD
    refine ⟨acc, hD4, sz_smallL (by have := hA.len; omega), Same.mut (hS.trans hS4) Mu.upd h0, _, upd_same, ?_⟩
    unfold Accd
    rw [List.filter_append, List.filter_cons, if_pos hf]
    refine Paired.app (Paired.mapP hA fun y v p => (hR y).2 _ _ _ _ (mut_lst hD4) Mu.upd ((hR y).1 _ _ _ hS4 p)) (.cons ?_ .nil)
    exact (hR y).2 _ _ _ _ (mut_lst hD4) Mu.upd hv
  · refine ⟨hS.trans hS3, acc, hS3 _ _ hD, ?_⟩
    unfold Accd
    rw [List.filter_append, List.filter_cons, if_neg (by rw [hf]; decide)]
    show Paired _ (_ ++ []) _
    rw [List.append_nil]
    exact Paired.mapP hA fun y v p => (hR y).1 _ _ _ hS3 p
theorem take_snoc {α : Type} {ys : List α} {i : Nat} {y : α} (e : ys[i]? = some y) : ys.take (i + 1) = ys.take i ++ [y] := by rw [List.take_add_one, e]; rfl
theorem lcl_use {α : Type} (fv : α → V) (ys : List α) (f : α → Bool) (R : α → V → Hp → Prop) (h : SqL K H a (ys.map fv)) (hR : ∀ y, Firm (R y)) (hz : ys.length < 10000000)
    (ht : ∀ y H', y ∈ ys → Same H H' → Turn g tt te vs σ (fv y) (f y) (R y) H')
    (k : ∀ D us H2, H D = none → Same H H2 → H2 D = some (.lst us) → Paired (fun y v => R y v H2) (ys.filter f) us → Q (.ref D) H2) : LCL K g tt te vs σ Q (.ref a) H := by
  refine ⟨a, rfl, ⟨_, h⟩, fun D hD => ?_⟩
  refine lc_list (K := K) (a := a) (xs := ys.map fv) (fun i H' => Same H H' ∧ ∃ acc, H' D = some (.lst acc) ∧ Accd f R (ys.take i) acc H') ⟨Same.new hD, [], upd_same, .nil⟩ (fun i H' _ p => p.1.seq h) (fun i x H' hi p => ?_) fun H' p => ?_
  · obtain ⟨hS, acc, hA, hP⟩ := p
    rw [List.getElem?_map] at hi
    cases e : ys[i]? with
    | none => rw [e] at hi; cases hi
    | some y =>
      rw [e] at hi
      cases hi
      rw [take_snoc e]
      exact turn_go hR (by rw [List.length_take]; omega) hD hS hA hP (ht y H' (List.mem_of_getElem? e) hS)
  · obtain ⟨hS, acc, hA, hP⟩ := p
    rw [List.length_map, List.take_length] at hP
    exact k D acc H' hD hS hA hP
theorem lct_use {α : Type} (fv : α → V) (ys : List α) (f : α → Bool) (R : α → V → Hp → Prop) (h : SqT K H a (ys.map fv)) (hR : ∀ y, Firm (R y)) (hz : ys.length < 10000000)
    (ht : ∀ y H', y ∈ ys → Same H H' → Turn g tt te vs σ (fv y) (f y) (R y) H')
    (k : ∀ D us H2, H D = none → Same H H2 → H2 D = some (.lst us) → Paired (fun y v => R y v H2) (ys.filter f) us → Q (.ref D) H2) : LCT K g tt te vs σ Q (.ref a) H := by
  refine ⟨a, rfl, ⟨_, h⟩, fun D hD => ?_⟩
  refine lc_tup (K := K) (a := a) (xs := ys.map fv) (fun i H' => Same H H' ∧ ∃ acc, H' D = some (.lst acc) ∧ Accd f R (ys.take i) acc H') ⟨Same.new hD, [], upd_same, .nil⟩ (fun i H' _ p => sqt_s p.1 h) (fun i x H' hi p => ?_) fun H' p => ?_
  · obtain ⟨hS, acc, hA, hP⟩ := p
    rw [List.getElem?_map] at hi
    cases e : ys[i]? with
    | none => rw [e] at hi; cases hi
    | some y =>
      rw [e] at hi
      cases hi
      rw [take_snoc e]
      exact turn_go hR (by rw [List.length_take]; omega) hD hS hA hP (ht y H' (List.mem_of_getElem? e) hS)
  · obtain ⟨hS, acc, hA, hP⟩ := p
    rw [List.length_map, List.take_length] at hP
    exact k D acc H' hD hS hA hP
theorem lcr_use {lo : Int} {n : Nat} (f : Nat → Bool) (R : Nat → V → Hp → Prop) (hR : ∀ y, Firm (R y)) (hz : n < 10000000)
    (ht : ∀ i H', i < n → Same H H' → Turn g tt te vs σ (.int (lo + i)) (f i) (R i) H')
    (k : ∀ D us H2, H D = none → Same H H2 → H2 D = some (.lst us) → Paired (fun y v => R y v H2) ((List.range n).filter f) us → Q (.ref D) H2) : LC (Itr lo n) g tt te vs σ Q H := by
  intro D hD
  refine lc_range (lo := lo) (n := n) (fun i H' => Same H H' ∧ ∃ acc, H' D = some (.lst acc) ∧ Accd f R (List.range i) acc H') ⟨Same.new hD, [], upd_same, .nil⟩ (fun i H' hi p => ?_) fun H' p => ?_
  · obtain ⟨hS, acc, hA, hP⟩ := p
    rw [List.range_succ]
    exact turn_go hR (by rw [List.length_range]; omega) hD hS hA hP (ht i H' hi hS)
  · obtain ⟨hS, acc, hA, hP⟩ := p
    exact k D acc H' hD hS hA hP
theorem lcr0_use {n : Nat} (f : Nat → Bool) (R : Nat → V → Hp → Prop) (hR : ∀ y, Firm (R y)) (hz : n < 10000000)
    (ht : ∀ i H', i < n → Same H H' → Turn g tt te vs σ (.int (i : Int)) (f i) (R i) H')
    (k : ∀ D us H2, H D = none → Same H H2 → H2 D = some (.lst us) → Paired (fun y v => R y v H2) ((List.range n).filter f) us → Q (.ref D) H2) : LC (Itr 0 n) g tt te vs σ Q H :=
  lcr_use f R hR hz (fun i H' hi hS => by rw [Int.zero_add]; exact ht i H' hi hS) k
theorem wipe_nil (σ : L2.St) : wipe σ [] = σ := rfl
theorem wipe_cons (σ : L2.St) (v : Nat) (vs : List Nat) : wipe σ (v :: vs) = (wipe σ vs).set v none := rfl
theorem Paired.vals {α : Type} {f : α → V} : ∀ {ys : List α} {us : List V}, Paired (fun y v => v = f y) ys us → us = ys.map f
  | _, _, .nil => rfl
  | _, _, .cons r t => by rw [r, Paired.vals t]; rfl
theorem Paired.dps {α : Type} {f : α → PyData} : ∀ {ys : List α} {us : List V}, Paired (fun y v => Dp K H v (f y)) ys us → DpAll K H us (ys.map f)
  | _, _, .nil => .nil
  | _, _, .cons r t => .cons r (Paired.dps t)
theorem filter_yes {α : Type} (ys : List α) : ys.filter (fun _ => true) = ys := by simp
end
end R
namespace R
open PySem PySem.Spec PyProof.Rows L2
/-! ### own instances: fields, methods, making -/
section
variable {K : PySem.W.Frag} {σ : L2.St} {H : Hp} {Q : VK} {f m : Str} {v x y : V} {ta tv te : TE} {t : TA} {D : Ends} {a C dx : Addr} {fs : List (Str × V)} {sp : Sp} {E : XK}
def FldG (K : PySem.W.Frag) (f : Str) (x : V) (H : Hp) (Q : VK) : Prop := ∃ a C dx fs v, x = .ref a ∧ H a = some (.ins C dx fs) ∧ Cls K C ∧ NoAttr K C f ∧ fs.lookup f = some v ∧ Q v H
theorem e_fld : tFld K ta f σ H Q = (ta σ H fun x H1 => FldG K f x H1 Q) := rfl
theorem c_fld (h : H a = some (.ins C dx fs)) (c : Cls K C) (n : NoAttr K C f) (e : fs.lookup f = some v) (k : Q v H) : FldG K f (.ref a) H Q := ⟨a, C, dx, fs, v, rfl, h, c, n, e, k⟩
def SFldG (K : PySem.W.Frag) (f : Str) (y : V) (D : Ends) (σ : L2.St) (x : V) (H : Hp) : Prop := ∃ a C dx fs, x = .ref a ∧ H a = some (.ins C dx fs) ∧ Cls K C ∧ NoAttr K C f ∧ fs.length < 1000 ∧ D.nx σ (upd H a (.ins C dx (putF f y fs)))
theorem e_sFld : sFld K ta tv f D σ H = (tv σ H fun y H1 => ta σ H1 fun x H2 => SFldG K f y D σ x H2) := rfl
theorem c_sFld (h : H a = some (.ins C dx fs)) (c : Cls K C) (n : NoAttr K C f) (l : fs.length < 1000) (k : ∀ H1, Mu a H H1 → H1 a = some (.ins C dx (putF f y fs)) → D.nx σ H1) : SFldG K f y D σ (.ref a) H :=
  ⟨a, C, dx, fs, rfl, h, c, n, l, k _ Mu.upd upd_same⟩
theorem e_seqFld {u : TS} : tSeq (sFld K ta tv f) u D σ H = (tv σ H fun y H1 => ta σ H1 fun x H2 => SFldG K f y { D with nx := u D } σ x H2) := rfl
def MethG (C : Addr) (m : Str) (sp : Sp) (E : XK) (t : TA) (σ : L2.St) (x : V) (H : Hp) (Q : VK) : Prop := ∃ a dx fs, x = .ref a ∧ H a = some (.ins C dx fs) ∧ fs.lookup m = none ∧ t σ H fun vs H2 => sp (x :: (vs ++ [])) H2 Q E
theorem e_meth : tMeth C m sp [] E ta t σ H Q = (ta σ H fun x H1 => MethG C m sp E t σ x H1 Q) := rfl
theorem c_meth (h : H a = some (.ins C dx fs)) (e : fs.lookup m = none) (k : t σ H fun vs H2 => sp (.ref a :: (vs ++ [])) H2 Q E) : MethG C m sp E t σ (.ref a) H Q := ⟨a, dx, fs, rfl, h, e, k⟩
def MakeG (C : Addr) (sp : Sp) (E : XK) (vs : List V) (H : Hp) (Q : VK) : Prop := ∀ x dx, H x = none → H dx = none → dx ≠ x → sp (.ref x :: (vs ++ [])) (upd (upd H dx (.own x)) x (.ins C dx [])) (fun v H2 => v = .non ∧ Q (.ref x) H2) E
theorem e_make : tMake C sp [] E t σ H Q = (t σ H fun vs H1 => MakeG C sp E vs H1 Q) := rfl
theorem c_make {vs : List V} (k : ∀ x dx H2, H x = none → Same H H2 → H2 x = some (.ins C dx []) → sp (.ref x :: (vs ++ [])) H2 (fun v H3 => v = .non ∧ Q (.ref x) H3) E) : MakeG C sp E vs H Q := fun x dx hx hd n =>
  k x dx _ hx ((Same.new hd).trans (Same.new (by rw [upd_ne (Ne.symm n)]; exact hx))) upd_same
theorem lk_here {r : List (Str × V)} : ((f, v) :: r).lookup f = some v := by simp [List.lookup]
theorem lk_next {g : Str} {w : V} {r : List (Str × V)} {o : Option V} (n : f ≠ g) (e : r.lookup f = o) : ((g, w) :: r).lookup f = o := by
  rw [List.lookup_cons, beq_false_of_ne n]
  exact e
theorem lk_no : ([] : List (Str × V)).lookup f = none := rfl
theorem lk_nextL {a b : String} {w : V} {r : List (Str × V)} {o : Option V} (n : a ≠ b) (e : r.lookup (Str.ofString a) = o) : ((Str.ofString b, w) :: r).lookup (Str.ofString a) = o := lk_next (by rw [ne_eq, str_lit]; exact n) e
/-! ### while -/
def WhB (Pv : Nat → L2.St → Hp → Prop) (m : Nat) (tb : TS) (D : Ends) (σ : L2.St) (H : Hp) : Prop := ∃ N : L2.St → Hp → Prop, (∀ σ' H', N σ' H' → ∃ m', m' < m ∧ Pv m' σ' H') ∧ tb { D with nx := N, ct := N, bk := D.nx } σ H
theorem wh_use {tc : TT} {tb : TS} (Pv : Nat → L2.St → Hp → Prop) (m : Nat) (h0 : Pv m σ H) (hs : ∀ m σ H, Pv m σ H → tc σ H fun b H1 => if b = true then WhB Pv m tb D σ H1 else D.nx σ H1) : tWhile tc tb D σ H := ⟨Pv, ⟨m, h0⟩, hs⟩
theorem c_whB {Pv : Nat → L2.St → Hp → Prop} {m : Nat} {tb : TS} (k : tb { D with nx := fun σ' H' => ∃ m', m' < m ∧ Pv m' σ' H', ct := fun σ' H' => ∃ m', m' < m ∧ Pv m' σ' H', bk := D.nx } σ H) : WhB Pv m tb D σ H := ⟨_, fun _ _ h => h, k⟩
/-! ### comprehensions whose turns change the heap -/
variable {g : TG} {tt : TT} {vs : List Nat}
/-- a turn that keeps y ends -/
def EndE (Pv : Nat → List V → Hp → Prop) (i : Nat) (D : Addr) (y : V) (H : Hp) : Prop := ∃ acc, H D = some (.lst acc) ∧ acc.length < sizeLine ∧ ∃ acc2, upd H D (.lst (acc ++ [y])) D = some (.lst acc2) ∧ acc2.length ≤ i + 1 ∧ Pv (i + 1) acc2 (upd H D (.lst (acc ++ [y])))
/-- a turn that keeps nothing ends -/
def EndN (Pv : Nat → List V → Hp → Prop) (i : Nat) (D : Addr) (H : Hp) : Prop := ∃ acc, H D = some (.lst acc) ∧ acc.length ≤ i + 1 ∧ Pv (i + 1) acc H
theorem c_endE {Pv : Nat → List V → Hp → Prop} {i : Nat} {L : Addr} {acc : List V} (h : H L = some (.lst acc)) (hl : acc.length ≤ i) (hz : i < 10000000) (k : ∀ H5, Mu L H H5 → H5 L = some (.lst (acc ++ [y])) → Pv (i + 1) (acc ++ [y]) H5) : EndE Pv i L y H :=
  ⟨acc, h, sz_smallL (by omega), _, upd_same, by rw [List.length_append, List.length_singleton]; omega, k _ Mu.upd upd_same⟩
theorem c_endN {Pv : Nat → List V → Hp → Prop} {i : Nat} {L : Addr} {acc : List V} (h : H L = some (.lst acc)) (hl : acc.length ≤ i) (k : Pv (i + 1) acc H) : EndN Pv i L H := ⟨acc, h, by omega, k⟩
/-- the invariant says what the items so far are and how the heap stands -/
theorem lc_inv {J : It} (n : Nat) (Pv : Nat → List V → Hp → Prop)
    (h0 : ∀ D H1, H D = none → Same H H1 → H1 D = some (.lst []) → Pv 0 [] H1)
    (hs : ∀ i acc D H', H D = none → H' D = some (.lst acc) → acc.length ≤ i → i ≤ n → Pv i acc H' →
      (J.stop i H' ∧ Q (.ref D) H') ∨ (i < n ∧ J.go i H' ∧ ∀ x H2, J.yld i H' x H2 → g x (wipe σ vs) H2 fun σ2 H2 => wipe σ2 vs = wipe σ vs ∧ tt σ2 H2 fun b H3 =>
        if b = true then te σ2 H3 fun y H4 => EndE Pv i D y H4 else EndN Pv i D H3)) : LC J g tt te vs σ Q H := by
  intro D hD
  refine ⟨fun i m H' => m = n - i ∧ i ≤ n ∧ ∃ acc, H' D = some (.lst acc) ∧ acc.length ≤ i ∧ Pv i acc H', ⟨_, rfl, Nat.zero_le _, [], upd_same, Nat.le_refl _, h0 D _ hD (Same.new hD) upd_same⟩, ?_⟩
  rintro i m H' ⟨rfl, hi, acc, hA, hl, p⟩
  rcases hs i acc D H' hD hA hl hi p with h | ⟨hlt, hg, h⟩
  · exact .inl h
  · exact .inr ⟨hg, fun H'' => ∃ acc', H'' D = some (.lst acc') ∧ acc'.length ≤ i + 1 ∧ Pv (i + 1) acc' H'', fun H'' ⟨acc', a1, a2, a3⟩ => ⟨n - (i + 1), by omega, rfl, hlt, acc', a1, a2, a3⟩, h⟩
theorem lcr_inv {n : Nat} (Pv : Nat → List V → Hp → Prop) (h0 : ∀ D H1, H D = none → Same H H1 → H1 D = some (.lst []) → Pv 0 [] H1)
    (hs : ∀ i acc D H', i < n → H D = none → H' D = some (.lst acc) → acc.length ≤ i → Pv i acc H' → g (.int (i : Int)) (wipe σ vs) H' fun σ2 H2 => wipe σ2 vs = wipe σ vs ∧ tt σ2 H2 fun b H3 => if b = true then te σ2 H3 fun y H4 => EndE Pv i D y H4 else EndN Pv i D H3)
    (hd : ∀ acc D H', H D = none → H' D = some (.lst acc) → acc.length ≤ n → Pv n acc H' → Q (.ref D) H') : LC (Itr 0 n) g tt te vs σ Q H := by
  refine lc_inv n Pv h0 fun i acc D H' hD hA hl hi p => ?_
  by_cases h : i < n
  · refine .inr ⟨h, h, fun x H2 y => ?_⟩
    obtain ⟨e1, e2⟩ := y
    subst e1 e2
    rw [Int.zero_add]
    exact hs i acc D _ h hD hA hl p
  · have e : i = n := by omega
    subst e
    exact .inl ⟨Nat.le_refl _, hd acc D H' hD hA hl p⟩
theorem lcl_inv {α : Type} (fv : α → V) (ys : List α) (Pv : Nat → List V → Hp → Prop) (h : SqL K H a (ys.map fv)) (hk : ∀ i acc H', Pv i acc H' → SqL K H' a (ys.map fv))
    (h0 : ∀ D H1, H D = none → Same H H1 → H1 D = some (.lst []) → Pv 0 [] H1)
    (hs : ∀ i y acc D H', ys[i]? = some y → H D = none → H' D = some (.lst acc) → acc.length ≤ i → Pv i acc H' → g (fv y) (wipe σ vs) H' fun σ2 H2 => wipe σ2 vs = wipe σ vs ∧ tt σ2 H2 fun b H3 => if b = true then te σ2 H3 fun y H4 => EndE Pv i D y H4 else EndN Pv i D H3)
    (hd : ∀ acc D H', H D = none → H' D = some (.lst acc) → acc.length ≤ ys.length → Pv ys.length acc H' → Q (.ref D) H') : LCL K g tt te vs σ Q (.ref a) H := by
  refine ⟨a, rfl, ⟨_, h⟩, lc_inv ys.length Pv h0 fun i acc D H' hD hA hl hi p => ?_⟩
  have q := hk i acc H' p
  by_cases hlt : i < ys.length
  · have e0 : (ys.map fv)[i]? = some (fv ys[i]) := by simp [hlt]
    refine .inr ⟨hlt, ⟨_, _, q, e0⟩, fun x H2 y => ?_⟩
    obtain ⟨e, y⟩ := y
    subst e
    have e1 := y _ q
    rw [e0] at e1
    cases e1
    exact hs i ys[i] acc D _ (by simp [hlt]) hD hA hl p
  · have e : i = ys.length := by omega
    subst e
    exact .inl ⟨⟨_, q, by simp⟩, hd acc D H' hD hA hl p⟩
theorem lct_inv {α : Type} (fv : α → V) (ys : List α) (Pv : Nat → List V → Hp → Prop) (h : SqT K H a (ys.map fv)) (hk : ∀ i acc H', Pv i acc H' → SqT K H' a (ys.map fv))
    (h0 : ∀ D H1, H D = none → Same H H1 → H1 D = some (.lst []) → Pv 0 [] H1)
    (hs : ∀ i y acc D H', ys[i]? = some y → H D = none → H' D = some (.lst acc) → acc.length ≤ i → Pv i acc H' → g (fv y) (wipe σ vs) H' fun σ2 H2 => wipe σ2 vs = wipe σ vs ∧ tt σ2 H2 fun b H3 => if b = true then te σ2 H3 fun y H4 => EndE Pv i D y H4 else EndN Pv i D H3)
    (hd : ∀ acc D H', H D = none → H' D = some (.lst acc) → acc.length ≤ ys.length → Pv ys.length acc H' → Q (.ref D) H') : LCT K g tt te vs σ Q (.ref a) H := by
  refine ⟨a, rfl, ⟨_, h⟩, lc_inv ys.length Pv h0 fun i acc D H' hD hA hl hi p => ?_⟩
  have q := hk i acc H' p
  by_cases hlt : i < ys.length
  · have e0 : (ys.map fv)[i]? = some (fv ys[i]) := by simp [hlt]
    refine .inr ⟨hlt, ⟨_, _, q, e0⟩, fun x H2 y => ?_⟩
    obtain ⟨e, y⟩ := y
    subst e
    have e1 := y _ q
    rw [e0] at e1
    cases e1
    exact hs i ys[i] acc D _ (by simp [hlt]) hD hA hl p
  · have e : i = ys.length := by omega
    subst e
    exact .inl ⟨⟨_, q, by simp⟩, hd acc D H' hD hA hl p⟩
end
end R
namespace R
open PySem PySem.Spec PyProof.Rows L2
/-! ### rules that the kit's hand layer has not -/
theorem extend_tupleD (l : Addr) (items : Array Value) (n : Nat) (b : Addr) (items2 : Array Value) (n2 : Nat) (dd : Option Addr) (sl : Array (Option Value)) (hs0 : ¬(!items.isEmpty && Builtin.List.listTooLong (items.size + items2.size)) = true) (hs1 : items.size ≤ sizeLine) (hs2 : items.size + items2.size ≤ sizeLine + 1) :
    Meets (Builtin.«list.extend» ⟨[.ref l, .ref b], []⟩) (fun _ R s => s.heap.get? l = some { cls := .type "list", dict := none, data := .seq items n, slots := #[] } ∧ s.heap.get? b = some { cls := .type "tuple", dict := dd, data := .seq items2 n2, slots := sl } ∧ R (.ok (.ret Value.none)) { s with heap := s.heap.update l (Obj.mapSeq fun x => x ++ items2), toks := s.toks }) :=
  .of_wp fun prog w A R s h => by
    obtain ⟨hp, g, d, tk, os⟩ := s; obtain ⟨hl, hb, h⟩ := h; have f1 := AutoSeq1.idx_int; have f2 := AutoSeq1.sub_tuple_tuple; have f3 := AutoSeq1.sub_list_list; have f4 := AutoSeq1.sub_tuple_list; have f5 := AutoSeq1.sub_list_tuple;
    have hz' : (items ++ items2).size ≤ sizeLine + 1 := by rw [Array.size_append]; exact hs2
    wp_walk using (wpAny_updateSeq hl rfl (hz := hs1) (_hz' := hz')), AutoSeq1.wpAny_loadPart' hl, AutoSeq1.wpAny_loadPart' hb; exact ⟨_, rfl, h⟩
section
variable {X : Cx}
/-- xs.extend(t), t a tuple -/
def rExtendT (K : PySem.W.Frag) : V → List V → Hp → VK → Prop := fun x vs H Q => ∃ l b xs zs, x = .ref l ∧ vs = [.ref b] ∧ H l = some (.lst xs) ∧ SqT K H b zs ∧ xs.length + zs.length ≤ sizeLine ∧ Q .non (upd H l (.lst (xs ++ zs)))
theorem mt_extendT : MtM X "list.extend" (rExtendT X.K) := by
  intro pins s σ H x vs v us Q I rx rv h
  obtain ⟨l, b, xs, zs, rfl, rfl, hH, hB, hz, q⟩ := h
  cases rx
  obtain ⟨u, rfl, ru⟩ := rv.one
  cases ru
  obtain ⟨z, its, n, r, hl, e⟩ := I.lstM hH
  obtain ⟨its2, r2, ⟨⟨cls, dd, data, sl⟩, ho, hc, n2, hd⟩, hz2⟩ := I.tuple hB
  simp only at hc hd
  subst hc hd
  have l2 := r2.length
  have hsz : its.toArray.size + its2.toArray.size ≤ sizeLine := by rw [List.size_toArray, List.size_toArray]; omega
  have hlong : ¬ (!its.toArray.isEmpty && Builtin.List.listTooLong (its.toArray.size + its2.toArray.size)) = true := by
    rw [notLongL hsz, Bool.and_false]
    exact Bool.false_ne_true
  refine call_meets F.slot_list_extend ⟨_, e, rfl⟩ F.entry_list_extend (F.args_list_extend_2 _ _)
    (extend_tupleD l its.toArray n b its2.toArray n2 dd sl hlong (by rw [List.size_toArray]; omega) (by omega)) ⟨e, ho, ?_⟩
  refine ⟨.non, _, I.lset (its' := its ++ its2) hH e (by simp) (r.append r2) ?_, rfl, q⟩
  rw [List.length_append]
  omega
/-- t.index(k), a tuple of texts -/
def rIndexT (K : PySem.W.Frag) : V → List V → Hp → VK → Prop := fun x vs H Q => ∃ (a : Addr) (ys : List Str) (k : Str), x = .ref a ∧ vs = [.str k] ∧ SqT K H a (ys.map V.str) ∧ k ∈ ys ∧ Q (.int (ys.idxOf k : Nat)) H
theorem mt_indexT : MtR X "tuple.index" (rIndexT X.K) := by
  intro pins s σ H x vs v us Q I rx rv h
  obtain ⟨a, ys, k, rfl, rfl, hs, hk, q⟩ := h
  cases rx
  obtain ⟨u, rfl, ru⟩ := rv.one
  obtain ⟨t, rfl⟩ := ru
  obtain ⟨its, r, p, _⟩ := I.tuple hs
  exact SeqAt.tuple_index_strs (show s.heap.IsTuple a its.toArray from p) r.strs hk ⟨.int _, H, I.tok _, ⟨_, rfl⟩, q⟩
/-- xs.index(k), a list of texts -/
def rIndexL (K : PySem.W.Frag) : V → List V → Hp → VK → Prop := fun x vs H Q => ∃ (a : Addr) (ys : List Str) (k : Str), x = .ref a ∧ vs = [.str k] ∧ SqL K H a (ys.map V.str) ∧ k ∈ ys ∧ Q (.int (ys.idxOf k : Nat)) H
theorem mt_indexL : MtR X "list.index" (rIndexL X.K) := by
  intro pins s σ H x vs v us Q I rx rv h
  obtain ⟨a, ys, k, rfl, rfl, hs, hk, q⟩ := h
  cases rx
  obtain ⟨u, rfl, ru⟩ := rv.one
  obtain ⟨t, rfl⟩ := ru
  obtain ⟨its, r, p, hz⟩ := I.list hs
  exact SeqAt.list_index_strs p.isList r.strs (by simpa using hz) hk ⟨.int _, H, I.tok _, ⟨_, rfl⟩, q⟩
/-! ### d.get(k, x), d a dict of the module's top with text keys -/
def rKd (K : PySem.W.Frag) (d : Addr) (s : Str) (z v : V) : Prop := (PySem.W.nsIn K d s = some none ∧ v = z) ∨ ∃ u, PySem.W.nsIn K d s = some (some u) ∧ RelV v u
def tKGet2 (K : PySem.W.Frag) (d : Addr) (ty tx : TE) : TE := fun σ H Q => ty σ H fun y H1 => tx σ H1 fun z H2 => ∃ s v, y = .str s ∧ rKd K d s z v ∧ Q v H2
theorem pe_kget2 {x : Str} {xp apos cpos : Pos} {e f : Expr} {ty tx : TE} {d : Addr} {es : Array DictEntry} {n : Nat} (D : KDict X.K X.w d es n) (ho : PE X (.Name x xp) (tC (.ref d))) (he : PE X e ty) (hf : PE X f tx) (m : M2 X (.Name x xp) "get" apos e f cpos) :
    PE X (.Call (.Attribute (.Name x xp) "get" apos) [e, f] [] cpos) (tKGet2 X.K d ty tx) := by
  refine ⟨fun pins s σ H Q I h => ?_⟩
  refine wpAny_Call_method m.base m.few m.line PySem.F.plainAttrs_dict PySem.F.slot_dict_get PySem.F.type_dict_get (thn (ho.run pins s σ H (fun v H1 => v = .ref d ∧ tKGet2 X.K d ty tx σ H1 Q) I ⟨rfl, h⟩) fun u s1 ⟨x, H1, I1, rx, ex, h1⟩ => ?_)
  subst ex
  obtain rfl : u = Value.ref d := rx
  refine ⟨kd_type D I1, fun b q => ?_, ?_⟩
  · cases q
    exact ⟨_, I1.kIn d _ D.at_, rfl⟩
  rw [m.trees]
  refine Calls.callWith_builtin rfl (Calls.evalArgs_plain (Calls.spliced_cons (thn (he.run pins s1 σ H1 _ I1 h1) fun iv s2 ⟨y, H2, I2, ry, q2⟩ =>
    Calls.spliced_cons (thn (hf.run pins s2 σ H2 _ I2 q2) fun fv s3 ⟨z, H3, I3, rz, k, v, ey, hv, q3⟩ => Calls.spliced_nil ?_))))
  subst ey
  obtain ⟨t, rfl⟩ := ry
  refine call_meetsIn PySem.F.slot_dict_get (kd_type D I3) PySem.F.entry_dict_get (PySem.F.args_dict_get_3 _ _ _) (meets_dict_get_default (strKind X.prog X.w) d (PySem.strKind_is X.prog X.w k t) D.low fv) ⟨_, PySem.W.mapOf_K (prog := X.prog) I3.kIn D.at_ D.lit, ?_⟩
  rcases hv with ⟨hv, rfl⟩ | ⟨u, hv, ru⟩
  · rw [PySem.W.find_K D.at_ hv]
    exact ⟨v, H3, I3.tok _, rz, q3⟩
  · rw [PySem.W.find_K D.at_ hv]
    exact ⟨v, H3, I3.tok _, ru, q3⟩
end
section
variable {K : PySem.W.Frag} {σ : L2.St} {H : Hp} {Q : VK} {ty tx : TE} {y z v : V} {s k : Str} {d a l b : Addr} {xs zs : List V} {ys : List Str}
theorem e_kget2 : tKGet2 K d ty tx σ H Q = (ty σ H fun y H1 => tx σ H1 fun z H2 => ∃ s v, y = .str s ∧ rKd K d s z v ∧ Q v H2) := rfl
theorem c_kget2 (h : rKd K d s z v) (k : Q v H) : ∃ s' v, V.str s = .str s' ∧ rKd K d s' z v ∧ Q v H := ⟨s, v, rfl, h, k⟩
def TupK (K : PySem.W.Frag) (a : Addr) : Prop := ∃ o, K.lookup a = some o ∧ o.cls = .type "tuple" ∧ o.dict = none
theorem c_tyT {B : Prop} (h : TupK K a) (k : B) : tyV K "tuple" (.ref a) H ∧ B := ⟨Or.inr (Or.inl ⟨rfl, h⟩), k⟩
def tupKB (K : PySem.W.Frag) (a : Addr) : Bool := match K.lookup a with
  | some o => (match o.cls with
    | .type c => decide (c = "tuple")
    | _ => false) && o.dict.isNone
  | none => false
theorem tupKB_ok (h : tupKB K a = true) : TupK K a := by
  unfold tupKB at h
  cases q : K.lookup a with
  | none => rw [q] at h; cases h
  | some o =>
    obtain ⟨oc, od, dt, osl⟩ := o
    rw [q] at h
    obtain ⟨h1, h2⟩ := Bool.and_eq_true_iff.mp h
    cases oc with
    | type c =>
      cases od with
      | none => exact ⟨_, q, congrArg Value.type (of_decide_eq_true h1), rfl⟩
      | some a => cases h2
    | _ => cases h1
theorem c_tyLs {B : Prop} (h : SqL K H a xs) (k : B) : tyV K "list" (.ref a) H ∧ B := ⟨Or.inl ⟨rfl, _, h⟩, k⟩
theorem c_extendT (h : H l = some (.lst xs)) (hb : SqT K H b zs) (hz : xs.length + zs.length ≤ sizeLine) (k : ∀ H1, Mu l H H1 → H1 l = some (.lst (xs ++ zs)) → Q .non H1) : rExtendT K (.ref l) [.ref b] H Q := ⟨l, b, xs, zs, rfl, rfl, h, hb, hz, k _ Mu.upd upd_same⟩
theorem c_indexT (h : SqT K H a (ys.map V.str)) (hk : k ∈ ys) (q : Q (.int (ys.idxOf k : Nat)) H) : rIndexT K (.ref a) [.str k] H Q := ⟨a, ys, k, rfl, rfl, h, hk, q⟩
theorem c_indexL (h : SqL K H a (ys.map V.str)) (hk : k ∈ ys) (q : Q (.int (ys.idxOf k : Nat)) H) : rIndexL K (.ref a) [.str k] H Q := ⟨a, ys, k, rfl, rfl, h, hk, q⟩
def rTupleOf (K : PySem.W.Frag) : List V → Hp → VK → Prop := fun xs H Q => ∃ p ys, xs = [.ref p] ∧ ((SqL K H p ys ∧ ∀ l, H l = none → Q (.ref l) (upd H l (.tup ys))) ∨ (SqT K H p ys ∧ Q (.ref p) H))
def rListOf (K : PySem.W.Frag) : List V → Hp → VK → Prop := fun xs H Q => ∃ p ys, xs = [.ref p] ∧ (SqL K H p ys ∨ SqT K H p ys) ∧ ∀ l, H l = none → Q (.ref l) (upd H l (.lst ys))
theorem c_tupleOfL (h : SqL K H a xs) (k : ∀ p H1, H p = none → Same H H1 → H1 p = some (.tup xs) → Q (.ref p) H1) : rTupleOf K [.ref a] H Q := ⟨a, xs, rfl, .inl ⟨h, c_new1 k⟩⟩
theorem c_tupleOfT (h : SqT K H a xs) (k : Q (.ref a) H) : rTupleOf K [.ref a] H Q := ⟨a, xs, rfl, .inr ⟨h, k⟩⟩
theorem c_listOfL (h : SqL K H a xs) (k : ∀ p H1, H p = none → Same H H1 → H1 p = some (.lst xs) → Q (.ref p) H1) : rListOf K [.ref a] H Q := ⟨a, xs, rfl, .inl h, c_new1 k⟩
theorem c_listOfT (h : SqT K H a xs) (k : ∀ p H1, H p = none → Same H H1 → H1 p = some (.lst xs) → Q (.ref p) H1) : rListOf K [.ref a] H Q := ⟨a, xs, rfl, .inr h, c_new1 k⟩
theorem c_slA {lo hi : Option Int} (h : SqT K H a xs) (k : ∀ p H1, Same H H1 → SqT K H1 p (cutV xs lo hi) → Q (.ref p) H1) : L2.rSlA K (.ref a) lo hi H Q :=
  ⟨a, xs, rfl, h, fun e => k a H (Same.refl H) (sqt_is h (by unfold cutV; rw [e.1, e.2]; simp)), fun _ p hp => k p _ (Same.new hp) (SqT.of upd_same)⟩
theorem c_catA (h : SqT K H a xs) (h' : SqT K H b zs) (hz : xs.length + zs.length ≤ sizeLine) (k : ∀ p H1, Same H H1 → SqT K H1 p (xs ++ zs) → Q (.ref p) H1) : L2.rCatA K (.ref a) (.ref b) H Q :=
  ⟨a, b, xs, zs, rfl, rfl, h, h', hz, fun e => k b H (Same.refl H) (by subst e; exact h'), fun _ e => k a H (Same.refl H) (by subst e; rw [List.append_nil]; exact h), fun _ _ p hp => k p _ (Same.new hp) (SqT.of upd_same)⟩
end
end R
namespace R
open PySem PySem.Spec PyProof.Rows L2
/-! ### the steps, as local rows -/
/-- what stands at an address -/
local macro_rules | `(tactic| k_subL) => `(tactic| first | (first
  | assumption
  | ((with_reducible refine' SqT.of ?h1); (case h1 => k_subL))
  | ((with_reducible refine' SqL.of ?h1); (case h1 => k_subL))
  | ((with_reducible refine' lk_s ?h1 ?h2); (case h1 => assumption); (case h2 => k_subL))
  | ((with_reducible refine' lk_m ?h1 ?h2 ?h3); (case h1 => assumption); (case h3 => k_subL); (case h2 => k_clsL))
  | ((with_reducible refine' sqt_s ?h1 ?h2); (case h1 => assumption); (case h2 => k_subL))
  | ((with_reducible refine' sql_s ?h1 ?h2); (case h1 => assumption); (case h2 => k_subL))
  | ((with_reducible refine' sqt_m ?h1 ?h2 ?h3); (case h1 => assumption); (case h3 => k_subL); (case h2 => k_ownIn))
  | ((with_reducible refine' sql_m ?h1 ?h2 ?h3); (case h1 => assumption); (case h3 => k_subL); (case h2 => k_clsL))
  | ((with_reducible refine' SqF.sql ?h1); (case h1 => k_subL))
  | ((with_reducible refine' sqf_s ?h1 ?h2); (case h1 => assumption); (case h2 => k_subL))
  | ((with_reducible refine' sqf_m ?h1 ?h2 ?h3); (case h1 => assumption); (case h3 => k_subL); (case h2 => k_ownIn))
  | ((with_reducible refine' Dp.same ?h1 ?h2); (case h1 => assumption); (case h2 => k_subL))
  | ((with_reducible refine' DpAll.same ?h1 ?h2); (case h1 => assumption); (case h2 => k_subL))
  | ((with_reducible refine' Dp.mu ?h1 ?h2 ?h3 ?h4); (case h1 => assumption); (case h4 => k_subL); (case h2 => k_ownIn); (case h3 => nest_fact))
  | ((with_reducible refine' DpAll.mu ?h1 ?h2 ?h3 ?h4); (case h1 => assumption); (case h4 => k_subL); (case h2 => k_ownIn); (case h3 => nest_fact))) | fail)
local macro_rules | `(tactic| nest_fact) => `(tactic| first | (first | rfl | assumption) | fail)
/-- it is of a kind that may change -/
local macro_rules | `(tactic| k_ownIn) => `(tactic| first | (first | (refine' mut_l ?h1; (case h1 => k_subL)) | (refine' mut_i ?h1; (case h1 => k_subL)) | (refine' mut_d ?h1; (case h1 => k_subL))) | fail)
local macro_rules | `(tactic| k_clsL) => `(tactic| first | (first
  | assumption
  | (refine' Ne.symm ?h1; assumption)
  | (refine' ne_of_none ?h1 ?h2; (case h2 => assumption); (case h1 => k_subL))
  | (refine' Ne.symm (ne_of_none ?h1 ?h2); (case h2 => assumption); (case h1 => k_subL))
  | (refine' ne_of ?h1 ?h2 ?h3; (case h1 => k_subL); (case h2 => k_subL); (case h3 => intro z; cases z))) | fail)
local macro_rules | `(tactic| o_reads) => `(tactic| first | (first
  | exact Le.refl _
  | (refine' Le.trans ?h1 (le_s ?h2); (case h2 => assumption); (case h1 => o_reads))
  | (refine' Le.trans ?h1 (le_m ?h2); (case h2 => assumption); (case h1 => o_reads))) | fail)
local macro_rules | `(tactic| k_memK) => `(tactic| first | (first
  | assumption
  | (refine' le_free ?h1 ?h2; (case h2 => assumption); (case h1 => o_reads))) | fail)
local macro_rules | `(tactic| k_offL) => `(tactic| first | (first
  | assumption
  | exact Same.refl _
  | (refine' Same.trans ?h1 ?h2; (case h2 => assumption); (case h1 => k_offL))
  | (refine' Same.mut ?h1 ?h2 ?h3; (case h2 => assumption); (case h3 => k_memK); (case h1 => k_offL))) | fail)
local macro_rules | `(tactic| k_allIn) => `(tactic| first | (first
  | assumption
  | (refine' Same.mu ?h1; exact Same.refl _)
  | (refine' Mu.transS ?h1 ?h2; (case h2 => assumption); (case h1 => k_allIn))
  | (refine' Mu.trans ?h1 ?h2; (case h2 => assumption); (case h1 => k_allIn))
  | (refine' Mu.mut ?h1 ?h2 ?h3; (case h2 => assumption); (case h3 => k_memK); (case h1 => k_allIn))) | fail)
/-- the field of a written row -/
local macro_rules | `(tactic| k_upd) => `(tactic| first | (first | exact lk_here | exact lk_no | ((with_reducible refine' lk_nextL ?h1 ?h2); (case h1 => decide); (case h2 => k_upd))) | fail)
/-- the steps that ask nothing, as far as they go -/
local macro_rules | `(tactic| k_caught0) => `(tactic| first | (simp only [str_lit, ↓e_var0, ↓e_var1, ↓e_var2, ↓e_var3, ↓e_var4, ↓e_var5, ↓e_var6, ↓e_var7, ↓e_var8, ↓e_var9, ↓e_var10, ↓e_var11, ↓e_var12, ↓e_var13, ↓e_var14, ↓e_var15, ↓e_var16, ↓e_var17, ↓e_var18, ↓e_var19, ↓e_var20, ↓e_var21, ↓e_var22, ↓e_var23, ↓e_c, ↓e_op, ↓e_un, ↓e_test, ↓e_B, ↓e_tru, ↓e_notT, ↓e_andV, ↓e_orV, ↓e_notV, ↓e_if, ↓e_nil, ↓e_cons, ↓e_CB, ↓e_call, ↓e_seqAsg, ↓e_seqWhen, ↓e_seqIf, ↓e_seqDrop, ↓e_seq, ↓e_ifS, ↓e_ret, ↓e_retN, ↓e_asgN, ↓e_asg, ↓e_drop, ↓e_next, ↓e_break, ↓e_cont, ↓e_tup, ↓e_lst, ↓e_gSub, ↓e_BM, ↓e_BM0, ↓e_sl, ↓e_noPart, ↓e_part, ↓e_gName, ↓e_fld, ↓e_seqFld, ↓e_sFld, ↓e_meth, ↓e_make, ↓e_kget2, ↓e_forL, ↓e_forT, ↓e_par, ↓e_lcL, ↓e_lcT, ↓e_lcR1, ↓e_lcR2, ↓e_yes, wipe_nil, wipe_cons, true_and, ↓e_forR1, ↓e_forR2, ↓e_ex1, ↓e_ex2, ↓e_I0, ↓e_U, ↓e_bl, ↓e_truBl, ↓e_truInt, ↓e_exI, ↓e_eqI, ↓e_neI, ↓e_eqS, ↓e_neS, ↓e_eqB, ↓e_neB, ↓e_eqIS, ↓e_eqSI, ↓e_isN, ↓e_notN, ↓e_int1, ↓e_int1b, ↓e_bool1, ↓e_bool1b, ↓e_min2, ↓e_max2, ↓e_abs1, ↓reduceIte, reduceCtorEq, decide_true, decide_false, ↓e_gNil, ↓e_gCons, ↓e_ipI, ↓e_pairs, List.cons_append, List.nil_append, List.append_nil, Bool.not_true, Bool.not_false, Bool.or_false, Bool.false_or, Bool.or_true, Bool.true_or, Bool.and_true, Bool.true_and, Bool.and_false, Bool.false_and, List.set_cons_zero, List.set_cons_succ]) | fail)
/-- a size -/
local macro_rules | `(tactic| k_caughtNB) => `(tactic| first | (first | exact sz_small (by decide) | (apply sz_small; simp only [List.length_map, List.length_append, List.length_cons, List.length_nil]; omega) | (apply sz_smallL; simp only [List.length_map, List.length_append, List.length_cons, List.length_nil]; omega) | (apply sz_small; simp; done) | (apply sz_small; simp; omega) | exact sz_smallL (by decide) | (apply sz_smallL; simp; done) | (apply sz_smallL; simp; omega)) | fail)
/-- a step that asks the heap -/
local macro_rules | `(tactic| k_caughtB) => `(tactic| first | (first
  | k_caught0
  | ((with_reducible refine' c_andP ?h1 ?h2 ?_); (case h1 => (intro QT hq; k_places; exact hq)); (case h2 => (intro hg; (try simp only [decide_eq_true_eq, Bool.and_eq_true, Bool.or_eq_true, Bool.not_eq_true', decide_eq_false_iff_not] at hg); intro QT hq; k_places; exact hq)))
  | ((with_reducible refine' c_orP ?h1 ?h2 ?_); (case h1 => (intro QT hq; k_places; exact hq)); (case h2 => (intro hg; (try simp only [decide_eq_true_eq, Bool.and_eq_true, Bool.or_eq_true, Bool.not_eq_true', decide_eq_false_iff_not] at hg); intro QT hq; k_places; exact hq)))
  | (with_reducible refine c_andT ?_)
  | (with_reducible refine c_orT ?_)
  | ((with_reducible refine' c_new ?h1 (fun p H1 hp hS h1 => ?_)); (case h1 => k_caughtNB))
  | (with_reducible refine c_new1 (fun p H1 hp hS h1 => ?_))
  | ((with_reducible refine' c_ixL ?h1 ?h2 ?_); (case h1 => k_subL); (case h2 => first | rfl | assumption | exact atI_zero))
  | ((with_reducible refine' c_ixT ?h1 ?h2 ?_); (case h1 => k_subL); (case h2 => first | rfl | assumption | exact atI_zero))
  | ((with_reducible refine' c_setL ?h1 ?h2 (fun H1 hM h1 => ?_)); (case h1 => k_subL); (case h2 => rfl))
  | ((with_reducible refine' c_tyL ?h1 ?_); (case h1 => k_subL))
  | ((with_reducible refine' c_fld ?h1 ?h2 ?h3 ?h4 ?_); (case h1 => k_subL); (case h2 => k_updF); (case h3 => k_updF); (case h4 => k_upd))
  | ((with_reducible refine' c_sFld ?h1 ?h2 ?h3 ?h4 (fun H1 hM h1 => ?_)); (case h1 => k_subL); (case h2 => k_updF); (case h3 => k_updF); (case h4 => (simp; done)); simp only [putF, str_lit, String.reduceEq, ↓reduceIte, reduceCtorEq] at h1)
  | ((with_reducible refine' c_meth ?h1 ?h2 ?_); (case h1 => k_subL); (case h2 => k_upd))
  | (with_reducible refine c_make (fun p dx H1 hp hS h1 => ?_))
  | ((with_reducible refine' c_tyT ?h1 ?_); (case h1 => k_updF))
  | ((with_reducible refine' c_tyLs ?h1 ?_); (case h1 => k_subL))
  | ((with_reducible refine' c_extend ?h1 ?h2 ?h3 (fun H1 hM h1 => ?_)); (case h1 => k_subL); (case h2 => k_subL); (case h3 => k_caughtNB))
  | ((with_reducible refine' c_extendT ?h1 ?h2 ?h3 (fun H1 hM h1 => ?_)); (case h1 => k_subL); (case h2 => k_subL); (case h3 => k_caughtNB))
  | ((with_reducible refine' c_tupleOfL ?h1 (fun p H1 hp hS h1 => ?_)); (case h1 => k_subL))
  | ((with_reducible refine' c_tupleOfT ?h1 ?_); (case h1 => k_subL))
  | ((with_reducible refine' c_listOfL ?h1 (fun p H1 hp hS h1 => ?_)); (case h1 => k_subL))
  | ((with_reducible refine' c_listOfT ?h1 (fun p H1 hp hS h1 => ?_)); (case h1 => k_subL))
  | ((with_reducible refine' c_slA ?h1 (fun p H1 hS h1 => ?_)); (case h1 => k_subL))
  | ((with_reducible refine' c_catA ?h1 ?h2 ?h3 (fun p H1 hS h1 => ?_)); (case h1 => k_subL); (case h2 => k_subL); (case h3 => k_caughtNB))
  | ((with_reducible refine' c_append ?h1 ?h2 (fun H1 hM h1 => ?_)); (case h1 => k_subL); (case h2 => k_caughtNB))
  | ((with_reducible refine' c_cat ?h1 ?h2 ?h3 (fun p H1 hp hS h1 => ?_)); (case h1 => k_subL); (case h2 => k_subL); (case h3 => k_caughtNB))
  | ((with_reducible refine' c_lenL ?h1 ?_); (case h1 => k_subL))
  | ((with_reducible refine' c_lenT ?h1 ?_); (case h1 => k_subL))
  | ((with_reducible refine' g_tup ?h1 ?h2 ?_); (case h1 => k_subL); (case h2 => rfl))
  | (with_reducible refine isi_int_int ?_)
  | (with_reducible refine isi_int_bool ?_)
  | (with_reducible refine isi_int_tuple ?_)
  | (with_reducible refine isi_int_list ?_)
  | (with_reducible refine isi_int_str ?_)
  | (with_reducible refine isi_bl_int ?_)
  | (with_reducible refine isi_bl_bool ?_)
  | (with_reducible refine isi_bl_tuple ?_)
  | (with_reducible refine isi_bl_list ?_)
  | (with_reducible refine isi_bl_str ?_)
  | (with_reducible refine isi_str_int ?_)
  | (with_reducible refine isi_str_bool ?_)
  | (with_reducible refine isi_str_tuple ?_)
  | (with_reducible refine isi_str_list ?_)
  | (with_reducible refine isi_str_str ?_)
  | (with_reducible refine isi_non_int ?_)
  | (with_reducible refine isi_non_bool ?_)
  | (with_reducible refine isi_non_tuple ?_)
  | (with_reducible refine isi_non_list ?_)
  | (with_reducible refine isi_non_str ?_)
  | ((with_reducible refine' isi_t_int ?h1 ?_); (case h1 => k_subL))
  | ((with_reducible refine' isi_t_bool ?h1 ?_); (case h1 => k_subL))
  | ((with_reducible refine' isi_t_tuple ?h1 ?_); (case h1 => k_subL))
  | ((with_reducible refine' isi_t_list ?h1 ?_); (case h1 => k_subL))
  | ((with_reducible refine' isi_t_str ?h1 ?_); (case h1 => k_subL))
  | ((with_reducible refine' isi_l_int ?h1 ?_); (case h1 => k_subL))
  | ((with_reducible refine' isi_l_bool ?h1 ?_); (case h1 => k_subL))
  | ((with_reducible refine' isi_l_tuple ?h1 ?_); (case h1 => k_subL))
  | ((with_reducible refine' isi_l_list ?h1 ?_); (case h1 => k_subL))
  | ((with_reducible refine' isi_l_str ?h1 ?_); (case h1 => k_subL))
  | ((with_reducible refine' c_iteKF ?h1 ?_); (case h1 => o_readsAll))
  | ((with_reducible refine' c_iteKT ?h1 ?_); (case h1 => o_readsAll))
  | ((with_reducible refine' c_sum ?h1 ?h2 ?_); (case h1 => k_subL); (case h2 => rfl))
  | ((with_reducible refine' c_bnd1 ?h1 ?_); (case h1 => k_intsEnd))
  | ((with_reducible refine' c_bnd2 ?h1 ?h2 ?_); (case h1 => k_intsEnd); (case h2 => k_intsEnd))
  | ((with_reducible refine' c_I ?h1 ?_); (case h1 => k_caughtN0))) | fail)
local macro_rules | `(tactic| k_intsEnd) => `(tactic| first | (first | (refine bnd_of ?_ ?_ <;> first | omega | (simp; omega))) | fail)
local macro_rules | `(tactic| k_caughtN0) => `(tactic| first | (first
  | (show _ ≠ (0 : Int); omega)
  | (show CDivN _ _; exact ⟨by omega, by omega⟩)
  | exact cmul_fm (by decide) (by decide)
  | (show CMul _ _; first | exact .inl ⟨by omega, by omega⟩ | exact .inr ⟨by omega, by omega⟩)
  | (show CPow _ _; exact ⟨by decide, by decide, by decide⟩)) | fail)
/-- a written truth value -/
local macro_rules | `(tactic| o_readsAll) => `(tactic| first | ((simp only [Bool.or_false, Bool.false_or, Bool.or_true, Bool.true_or, Bool.and_true, Bool.true_and, Bool.and_false, Bool.false_and, Bool.not_true, Bool.not_false, decide_true, decide_false, Bool.or_self, Bool.and_self, reduceCtorEq]; done)) | fail)
local macro_rules | `(tactic| o_readsAll) => `(tactic| first | (decide) | fail)
local macro_rules | `(tactic| k_places) => `(tactic| first | (repeat (first | k_caughtB | (dsimp only [List.set]; k_caughtB))) | fail)
/-- run on, both ways at every test -/
local macro_rules | `(tactic| o_fieldsN) => `(tactic| first | ((k_places; try ((first | refine cutA ?_ | refine c_ite (fun h => ?_) (fun h => ?_) | refine c_iteN (fun h => ?_) (fun h => ?_) | refine c_iteb (fun h => ?_) (fun h => ?_)) <;> o_fieldsN))) | fail)
structure CF (K : PySem.W.Frag) : Prop where
  tt : True
  cl_Reader : Cls K (He.ga K "Reader")
  na_Reader_data : NoAttr K (He.ga K "Reader") "data"
  na_Reader_place : NoAttr K (He.ga K "Reader") "place"
  na_Reader_end : NoAttr K (He.ga K "Reader") "end"
  kd_ARGUMENTS : ∀ s z v, (s, v) ∈ ([("num", .int 1), ("get", .int 1), ("put", .int 1), ("pick", .int 1), ("hop", .int 1), ("hopno", .int 1), ("call", .int 2), ("beat", .int 1)] : List (Str × V)) ∨ (s ∈ (["pace", "dup", "drop", "bit", "not", "add", "sub", "mul", "min", "max", "lt", "le", "eq", "ne", "ge", "gt", "back"] : List Str) ∧ v = z) → rKd K (He.ga K "ARGUMENTS") s z v
  ty_OPERATIONS : TupK K (He.ga K "OPERATIONS")
  tu_OPERATIONS : ∀ H, SqT K H (He.ga K "OPERATIONS") [.str "num", .str "get", .str "put", .str "pace", .str "pick", .str "dup", .str "drop", .str "bit", .str "not", .str "add", .str "sub", .str "mul", .str "min", .str "max", .str "lt", .str "le", .str "eq", .str "ne", .str "ge", .str "gt", .str "hop", .str "hopno", .str "call", .str "beat", .str "back"]
local macro_rules | `(tactic| k_updF) => `(tactic| first | (exact CF.cl_Reader (by assumption)) | fail)
local macro_rules | `(tactic| k_updF) => `(tactic| first | (exact CF.na_Reader_data (by assumption)) | fail)
local macro_rules | `(tactic| k_updF) => `(tactic| first | (exact CF.na_Reader_place (by assumption)) | fail)
local macro_rules | `(tactic| k_updF) => `(tactic| first | (exact CF.na_Reader_end (by assumption)) | fail)
local macro_rules | `(tactic| k_updF) => `(tactic| first | (exact CF.ty_OPERATIONS (by assumption)) | fail)
local macro_rules | `(tactic| k_subL) => `(tactic| first | ((with_reducible refine CF.tu_OPERATIONS (by assumption) _)) | fail)
/-! ### the law's draws -/
/-- the bag of draws at p -/
def BagAt (H : Hp) (p : Addr) : Prop := ∃ x y f : Int, H p = some (.lst [.int x, .int y, .int f])
section
variable {H H1 : Hp} {p l : Addr}
theorem bag_s (e : Same H H1) (h : BagAt H p) : BagAt H1 p := h.elim fun x h => h.elim fun y h => h.elim fun f h => ⟨x, y, f, e _ _ h⟩
theorem bag_m (e : Mu l H H1) (n : p ≠ l) (h : BagAt H p) : BagAt H1 p := h.elim fun x h => h.elim fun y h => h.elim fun f h => ⟨x, y, f, e.keep _ _ n h⟩
theorem bag_of {x y f : Int} (h : H p = some (.lst [.int x, .int y, .int f])) : BagAt H p := ⟨x, y, f, h⟩
theorem mut_b (h : BagAt H p) : Mut (H p) := h.elim fun x h => h.elim fun y h => h.elim fun f h => mut_l h
theorem bag_ne (h : BagAt H p) (h' : H l = none) : p ≠ l := h.elim fun x h => h.elim fun y h => h.elim fun f h => ne_of_none h h'
end
local macro_rules | `(tactic| k_subL) => `(tactic| first | (first
  | assumption
  | ((with_reducible refine' bag_s ?h1 ?h2); (case h1 => assumption); (case h2 => k_subL))
  | ((with_reducible refine' bag_m ?h1 ?h2 ?h3); (case h1 => assumption); (case h3 => k_subL); (case h2 => k_clsL))
  | ((with_reducible refine' bag_of ?h1); (case h1 => assumption))) | fail)
local macro_rules | `(tactic| k_ownIn) => `(tactic| first | (((refine' mut_b ?h1); (case h1 => k_subL))) | fail)
local macro_rules | `(tactic| k_clsL) => `(tactic| first | (first
  | assumption
  | ((refine' Ne.symm ?h1); assumption)
  | ((refine' bag_ne ?h1 ?h2); (case h2 => assumption); (case h1 => k_subL))
  | ((refine' Ne.symm (bag_ne ?h1 ?h2)); (case h2 => assumption); (case h1 => k_subL))) | fail)
def sp_lw_bag (K : PySem.W.Frag) : Sp := Sp2 fun a b H Q _ => ∃ (p : Addr) (ns : List Int) (i : Int), a = .ref p ∧ b = .int i ∧ SqL K H p (ns.map V.int) ∧ 0 ≤ i ∧
  ∀ q H', H q = none → Same H H' → BagAt H' q → Q (.ref q) H'
def sp_lw_take (_K : PySem.W.Frag) : Sp := Sp2 fun a b H Q _ => ∃ (p : Addr) (m : Int), a = .ref p ∧ b = .int m ∧ BagAt H p ∧ 0 < m ∧ m < 1073741824 ∧
  ∀ r H', 0 ≤ r → r < m → Mu p H H' → BagAt H' p → Q (.int r) H'
abbrev n_lw_bag : List Str := ["script", "at", "cell"]
abbrev t_lw_bag (K : PySem.W.Frag) : TS :=
    tSeq (tAsg (tC (.int 0)) (gName 2))
            (Evl.tCut (tIfS (tTest (tOp rLt (tVar 1) (tCB (rLen K) (tCons (tVar 0) (tNil))))) (tAsg (tOp (rIxL K) (tVar 0) (tVar 1)) (gName 2)) (tNext))
            (Evl.tCut (tIfS (tTest (tOp rLt (tVar 2) (tC (.int 0)))) (tAsg (tOp rSubI (tC (.int 1)) (tOp rMulI (tC (.int 2)) (tVar 2))) (gName 2)) (tNext))
            (tSeq (tIfS (tTest (tOp rGe (tVar 2) (tOp rPowI (tC (.int 10)) (tC (.int 18))))) (tRet (tLst (tCons (tOp rSubI (tVar 2) (tOp rPowI (tC (.int 10)) (tC (.int 18)))) (tCons (tVar 1) (tCons (tC (.int 1)) (tNil)))))) (tNext))
            (tRet (tLst (tCons (tVar 2) (tCons (tVar 1) (tCons (tC (.int 0)) (tNil)))))))))

abbrev n_lw_take : List Str := ["bag", "many", "digit", "one", "two", "three"]
abbrev t_lw_take (K : PySem.W.Frag) : TS :=
    tSeq (tIfS (tAnd (tTest (tOp rEq (tOp (rIxL K) (tVar 0) (tC (.int 2))) (tC (.int 1)))) (tTest (tOp rGt (tOp (rIxL K) (tVar 0) (tC (.int 0))) (tC (.int 1))))) (tSeq (tAsg (tOp rModN (tCB rInt1 (tCons (tOp (rIxL K) (tVar 0) (tC (.int 0))) (tNil))) (tVar 1)) (gName 2))
            (tSeq (tAsg (tOp rDivN (tOp (rIxL K) (tVar 0) (tC (.int 0))) (tVar 1)) (gSub (tVar 0) (tC (.int 0)) rSetL))
            (tRet (tVar 2)))) (tNext))
            (tSeq (tAsg (tOp rAddI (tOp (rIxL K) (tVar 0) (tC (.int 1))) (tC (.int 1))) (gSub (tVar 0) (tC (.int 1)) rSetL))
            (tSeq (tAsg (tOp rModN (tCB rInt1 (tCons (tOp rAddI (tOp rAddI (tOp rMulI (tOp (rIxL K) (tVar 0) (tC (.int 0))) (tC (.int 48271))) (tOp rMulI (tOp (rIxL K) (tVar 0) (tC (.int 1))) (tC (.int 69621)))) (tC (.int 12345))) (tNil))) (tC (.int 2147483647))) (gName 3))
            (tSeq (tAsg (tOp rModN (tCB rInt1 (tCons (tOp rAddI (tOp rMulI (tVar 3) (tVar 3)) (tOp rMulI (tOp (rIxL K) (tVar 0) (tC (.int 1))) (tC (.int 40692)))) (tNil))) (tC (.int 2147483399))) (gName 4))
            (tSeq (tAsg (tOp rModN (tCB rInt1 (tCons (tOp rAddI (tOp rMulI (tVar 4) (tVar 4)) (tVar 3)) (tNil))) (tC (.int 1000000007))) (gName 5))
            (tRet (tOp rModN (tCB rInt1 (tCons (tOp rDivN (tVar 5) (tC (.int 7))) (tNil))) (tVar 1)))))))

section
variable {K : PySem.W.Frag} {vs : List V} {H : Hp} {Q : VK} {E : XK}
theorem atI_ints {ns : List Int} {i : Int} (h0 : 0 ≤ i) (h : i < ns.length) : ∃ n, atI (ns.map V.int) i = some (.int n) := by
  obtain ⟨j, rfl⟩ := Int.eq_ofNat_of_zero_le h0
  have hj : j < ns.length := by omega
  exact ⟨ns[j], atI_nat (by rw [List.getElem?_map, List.getElem?_eq_getElem hj]; rfl)⟩
theorem rd_lw_bag {T : Prop} (C : T) (h : sp_lw_bag K vs H Q E) : t_lw_bag K { nx := fun _ H' => Q .non H', rt := Q } (start n_lw_bag vs) H := by
  obtain ⟨_, _, rfl, p, ns, i, rfl, rfl, hl, h0, k⟩ := h
  show t_lw_bag K _ [some (.ref p), some (.int i), none] H
  k_places
  refine cut (fun σ' H' => Same H H' ∧ ∃ c : Int, σ' = [some (.ref p), some (.int i), some (.int c)]) ?_ ?_
  · k_places
    refine c_ite (fun h => ?_) (fun h => ?_) <;> k_places
    · rw [List.length_map] at h
      obtain ⟨n, e⟩ := atI_ints h0 h
      refine' c_ixL ?hl e ?_
      case hl => k_subL
      exact ⟨Same.refl _, _, rfl⟩
    · exact ⟨Same.refl _, _, rfl⟩
  rintro _ H1 ⟨S1, c, rfl⟩
  refine cut (fun σ' H' => Same H H' ∧ ∃ c : Int, σ' = [some (.ref p), some (.int i), some (.int c)]) ?_ ?_
  · k_places
    refine c_ite (fun h => ?_) (fun h => ?_) <;> k_places <;> exact ⟨S1, _, rfl⟩
  rintro _ H2 ⟨S2, c, rfl⟩
  k_places
  refine c_ite (fun h => ?_) (fun h => ?_) <;> k_places
  · rename_i q H3 hq hS h3
    exact k q H3 (S2.free hq) (S2.trans hS) ⟨_, _, _, h3⟩
  · rename_i q H3 hq hS h3
    exact k q H3 (S2.free hq) (S2.trans hS) ⟨_, _, _, h3⟩
theorem rd_lw_take {T : Prop} (C : T) (h : sp_lw_take K vs H Q E) : t_lw_take K { nx := fun _ H' => Q .non H', rt := Q } (start n_lw_take vs) H := by
  obtain ⟨_, _, rfl, p, m, rfl, rfl, ⟨x, y, f, hp⟩, h0, hm, k⟩ := h
  show t_lw_take K _ [some (.ref p), some (.int m), none, none, none, none] H
  k_places
  refine c_iteb (fun h => ?_) (fun h => ?_) <;> k_places
  · simp only [Bool.and_eq_true, decide_eq_true_eq] at h
    have hn : m ≠ 0 := by omega
    k_places
    exact k _ _ (fm h0).1 (fm h0).2 (by assumption) ⟨_, _, _, by assumption⟩
  · exact k _ _ (fm h0).1 (fm h0).2 (by assumption) ⟨_, _, _, by assumption⟩
variable {p l : Addr} {m : Int}
theorem u_take (h : BagAt H p) (h0 : 0 < m) (hm : m < 1073741824) (k : ∀ r H', 0 ≤ r → r < m → Mu p H H' → BagAt H' p → Q (.int r) H') : sp_lw_take K ([.ref p, .int m]) H Q E :=
  ⟨_, _, rfl, p, m, rfl, rfl, h, h0, hm, k⟩
theorem u_bag {ns : List Int} {i : Int} (h : SqL K H p (ns.map V.int)) (h0 : 0 ≤ i) (k : ∀ q H', H q = none → Same H H' → BagAt H' q → Q (.ref q) H') : sp_lw_bag K ([.ref p, .int i]) H Q E :=
  ⟨_, _, rfl, p, ns, i, rfl, rfl, h, h0, k⟩
def sp_lw_pick (K : PySem.W.Frag) : Sp := Sp2 fun a b H Q _ => ∃ (p l : Addr) (xs : List V), a = .ref p ∧ b = .ref l ∧ BagAt H p ∧ SqL K H l xs ∧ l ≠ p ∧ xs ≠ [] ∧ xs.length < 1073741824 ∧
  ∀ v H', v ∈ xs → Mu p H H' → BagAt H' p → Q v H'
theorem u_pick {xs : List V} (h : BagAt H p) (hl : SqL K H l xs) (hn : l ≠ p) (h0 : xs ≠ []) (hm : xs.length < 1073741824) (k : ∀ v H', v ∈ xs → Mu p H H' → BagAt H' p → Q v H') : sp_lw_pick K ([.ref p, .ref l]) H Q E :=
  ⟨_, _, rfl, p, l, xs, rfl, rfl, h, hl, hn, h0, hm, k⟩
/-- the ints of a list of ints -/
def intsOf : List V → Option (List Int)
  | [] => some []
  | .int i :: r => match intsOf r with
    | some ms => some (i :: ms)
    | none => none
  | _ => none
def strsOf : List V → Option (List Str)
  | [] => some []
  | .str i :: r => match strsOf r with
    | some ms => some (i :: ms)
    | none => none
  | _ => none
theorem intsOf_eq : ∀ {xs : List V} {ns : List Int}, intsOf xs = some ns → xs = ns.map V.int
  | [], _, h => by cases h; rfl
  | .int i :: r, ns, h => by
    unfold intsOf at h
    cases e : intsOf r with
    | none => rw [e] at h; cases h
    | some ms => rw [e] at h; cases h; rw [intsOf_eq e]; rfl
theorem strsOf_eq : ∀ {xs : List V} {ns : List Str}, strsOf xs = some ns → xs = ns.map V.str
  | [], _, h => by cases h; rfl
  | .str i :: r, ns, h => by
    unfold strsOf at h
    cases e : strsOf r with
    | none => rw [e] at h; cases h
    | some ms => rw [e] at h; cases h; rw [strsOf_eq e]; rfl
theorem u_pickI {xs : List V} {ns : List Int} (h : BagAt H p) (hl : SqL K H l xs) (hi : intsOf xs = some ns) (hn : l ≠ p) (h0 : ns ≠ []) (hm : ns.length < 1073741824) (k : ∀ n H', n ∈ ns → Mu p H H' → BagAt H' p → Q (.int n) H') : sp_lw_pick K ([.ref p, .ref l]) H Q E := by
  have e := intsOf_eq hi
  subst e
  refine u_pick h hl hn (by simpa using h0) (by simpa using hm) fun v H' hv hM hB => ?_
  obtain ⟨n, hn, rfl⟩ := List.mem_map.mp hv
  exact k n H' hn hM hB
theorem u_pickS {xs : List V} {ns : List Str} (h : BagAt H p) (hl : SqL K H l xs) (hi : strsOf xs = some ns) (hn : l ≠ p) (h0 : ns ≠ []) (hm : ns.length < 1073741824) (k : ∀ n H', n ∈ ns → Mu p H H' → BagAt H' p → Q (.str n) H') : sp_lw_pick K ([.ref p, .ref l]) H Q E := by
  have e := strsOf_eq hi
  subst e
  refine u_pick h hl hn (by simpa using h0) (by simpa using hm) fun v H' hv hM hB => ?_
  obtain ⟨n, hn, rfl⟩ := List.mem_map.mp hv
  exact k n H' hn hM hB
end
local macro_rules | `(tactic| k_caughtB) => `(tactic| first | (((with_reducible refine' u_take ?h1 ?h2 ?h3 (fun r H' r0 rm hM hB => ?_)); (case h1 => k_subL); (case h2 => omega); (case h3 => omega))) | fail)
local macro_rules | `(tactic| k_caughtB) => `(tactic| first | (((with_reducible refine' u_bag ?h1 ?h2 (fun q H' hq hS hB => ?_)); (case h1 => k_subL); (case h2 => omega))) | fail)
local macro_rules | `(tactic| k_caughtB) => `(tactic| first | (((with_reducible refine' u_pick ?h1 ?h2 ?h3 ?h4 ?h5 (fun v H' hv hM hB => ?_)); (case h1 => k_subL); (case h2 => k_subL); (case h3 => k_clsL); (case h4 => exact List.cons_ne_nil _ _); (case h5 => first | decide | (simp; done) | (simp; omega)))) | fail)
local macro_rules | `(tactic| k_caughtB) => `(tactic| first | (((with_reducible refine' u_pickS ?h1 ?h2 ?h6 ?h3 ?h4 ?h5 (fun v H' hv hM hB => ?_)); (case h1 => k_subL); (case h2 => k_subL); (case h6 => rfl); (case h3 => k_clsL); (case h4 => exact List.cons_ne_nil _ _); (case h5 => first | decide | (simp; done) | (simp; omega)))) | fail)
local macro_rules | `(tactic| k_caughtB) => `(tactic| first | (((with_reducible refine' u_pickI ?h1 ?h2 ?h6 ?h3 ?h4 ?h5 (fun v H' hv hM hB => ?_)); (case h1 => k_subL); (case h2 => k_subL); (case h6 => rfl); (case h3 => k_clsL); (case h4 => exact List.cons_ne_nil _ _); (case h5 => first | decide | (simp; done) | (simp; omega)))) | fail)
abbrev n_lw_pick : List Str := ["bag", "menu"]
abbrev t_lw_pick (K : PySem.W.Frag) : TS :=
    tRet (tOp (rIxL K) (tVar 1) (tCall (sp_lw_take K) [] E0 (tCons (tVar 0) (tCons (tCB (rLen K) (tCons (tVar 1) (tNil))) (tNil)))))

theorem rd_lw_pick {K : PySem.W.Frag} {vs : List V} {H : Hp} {Q : VK} {E : XK} {T : Prop} (C : T) (h : sp_lw_pick K vs H Q E) : t_lw_pick K { nx := fun _ H' => Q .non H', rt := Q } (start n_lw_pick vs) H := by
  obtain ⟨_, _, rfl, p, l, xs, rfl, rfl, hb, hl, hn, h0, hm, k⟩ := h
  show t_lw_pick K _ [some (.ref p), some (.ref l)] H
  have hp : 0 < xs.length := List.length_pos_iff.mpr h0
  k_places
  rename_i r H' r0 rm hM hB
  obtain ⟨j, rfl⟩ := Int.eq_ofNat_of_zero_le r0
  have hj : j < xs.length := by omega
  refine' c_ixL ?hl (atI_nat (List.getElem?_eq_getElem hj)) (k _ _ (List.getElem_mem hj) hM hB)
  case hl => k_subL
/-! ### the law's comparison: it says True of two that are the same data -/
mutual
def dep : PyData → Nat
  | .tuple ds => depAll ds + 1
  | .list ds => depAll ds + 1
  | _ => 1
def depAll : List PyData → Nat
  | [] => 0
  | d :: ds => max (dep d) (depAll ds)
end
mutual
def wid : PyData → Nat
  | .tuple ds => max ds.length (widAll ds)
  | .list ds => max ds.length (widAll ds)
  | _ => 0
def widAll : List PyData → Nat
  | [] => 0
  | d :: ds => max (wid d) (widAll ds)
end
theorem dep_mem {d : PyData} : ∀ {ds : List PyData}, d ∈ ds → dep d ≤ depAll ds ∧ wid d ≤ widAll ds
  | e :: ds, h => by
    unfold depAll widAll
    rcases List.mem_cons.mp h with rfl | h
    · omega
    · have := dep_mem h
      omega
def sp_lw_same (K : PySem.W.Frag) : Nat → Sp
  | 0 => fun _ _ _ _ => False
  | n + 1 => Sp2 fun a b H Q _ => ∃ d, Dp K H a d ∧ Dp K H b d ∧ dep d ≤ n + 1 ∧ wid d ≤ 100000000 ∧ Q (.bl true) H
abbrev n_lw_same : List Str := ["got", "due", "k"]
abbrev t_lw_same (K : PySem.W.Frag) (n : Nat) : TS :=
    tSeq (tIfS (tOr (tB (tCB (rIsi K) (tCons (tVar 1) (tCons (tC (.ty "tuple")) (tNil))))) (tB (tCB (rIsi K) (tCons (tVar 1) (tCons (tC (.ty "list")) (tNil)))))) (tSeq (tIfS (tOr (tTest (tOp rNe (tCB (rIsi K) (tCons (tVar 1) (tCons (tC (.ty "tuple")) (tNil)))) (tCB (rIsi K) (tCons (tVar 0) (tCons (tC (.ty "tuple")) (tNil)))))) (tTest (tOp rNe (tCB (rIsi K) (tCons (tVar 1) (tCons (tC (.ty "list")) (tNil)))) (tCB (rIsi K) (tCons (tVar 0) (tCons (tC (.ty "list")) (tNil))))))) (tRet (tC (.bl false))) (tNext))
            (tSeq (tIfS (tTest (tOp rNe (tCB (rLen K) (tCons (tVar 0) (tNil))) (tCB (rLen K) (tCons (tVar 1) (tNil))))) (tRet (tC (.bl false))) (tNext))
            (tSeq (tFor (iRng1 (tCons (tCB (rLen K) (tCons (tVar 1) (tNil))) (tNil))) (gName 2) (tIfS (tNot (tB (tCall (sp_lw_same K n) [] E0 (tCons (tOp (rIx K) (tVar 0) (tVar 2)) (tCons (tOp (rIx K) (tVar 1) (tVar 2)) (tNil)))))) (tRet (tC (.bl false))) (tNext)))
            (tRet (tC (.bl true)))))) (tNext))
            (tSeq (tIfS (tOr (tB (tCB (rIsi K) (tCons (tVar 1) (tCons (tC (.ty "bool")) (tNil))))) (tB (tCB (rIsi K) (tCons (tVar 0) (tCons (tC (.ty "bool")) (tNil)))))) (tRet (tAndV (tCB (rIsi K) (tCons (tVar 1) (tCons (tC (.ty "bool")) (tNil)))) (tAndV (tCB (rIsi K) (tCons (tVar 0) (tCons (tC (.ty "bool")) (tNil)))) (tOp rEq (tVar 0) (tVar 1))))) (tNext))
            (tSeq (tIfS (tB (tCB (rIsi K) (tCons (tVar 1) (tCons (tC (.ty "int")) (tNil))))) (tRet (tAndV (tCB (rIsi K) (tCons (tVar 0) (tCons (tC (.ty "int")) (tNil)))) (tOp rEq (tVar 0) (tVar 1)))) (tNext))
            (tSeq (tIfS (tB (tCB (rIsi K) (tCons (tVar 1) (tCons (tC (.ty "str")) (tNil))))) (tRet (tAndV (tCB (rIsi K) (tCons (tVar 0) (tCons (tC (.ty "str")) (tNil)))) (tOp rEq (tVar 0) (tVar 1)))) (tNext))
            (tRet (tAndV (tOp rIsN (tVar 0) (tC .non)) (tOp rIsN (tVar 1) (tC .non)))))))

section
variable {K : PySem.W.Frag} {vs : List V} {H : Hp} {Q : VK} {E : XK}
theorem u_same {n : Nat} {a b : V} {d : PyData} (ha : Dp K H a d) (hb : Dp K H b d) (hd : dep d ≤ n + 1) (hw : wid d ≤ 100000000) (k : Q (.bl true) H) : sp_lw_same K (n + 1) ([a, b]) H Q E := ⟨a, b, rfl, d, ha, hb, hd, hw, k⟩
theorem ix_any {a : Addr} {xs : List V} {j : Nat} {v : V} (h : SqT K H a xs ∨ SqL K H a xs) (e : xs[j]? = some v) (k : Q v H) : rIx K (.ref a) (.int (j : Int)) H Q := by
  rcases h with h | h
  · exact .inr (.inl ⟨a, xs, _, v, rfl, rfl, h, atI_nat e, k⟩)
  · exact .inl ⟨a, xs, _, v, rfl, rfl, h, atI_nat e, k⟩
theorem rd_lw_same {T : Prop} (C : T) (n : Nat) (h : sp_lw_same K (n + 1) vs H Q E) : t_lw_same K n { nx := fun _ H' => Q .non H', rt := Q } (start n_lw_same vs) H := by
  obtain ⟨a, b, rfl, d, ha, hb, hd, hw, k⟩ := h
  show t_lw_same K n _ [some a, some b, none] H
  cases ha with
  | non => cases hb; k_places; exact k
  | bl x => cases hb; k_places; exact k
  | int x => cases hb; k_places; exact k
  | str x => cases hb; k_places; exact k
  | @tup a1 xs1 ds h1 r1 =>
    cases hb with
    | @tup a2 xs2 _ h2 r2 =>
    k_places
    have l1 := DpAll.len r1
    have l2 := DpAll.len r2
    simp only [dep] at hd
    simp only [wid] at hw
    refine c_iteKF (by rw [l1, l2]; simp) ?_
    k_places
    refine fr_use (fun i σ' H' => IsH H H' ∧ ∃ v, σ' = [some (.ref a1), some (.ref a2), v]) ⟨rfl, _, rfl⟩ ?_ ?_
    · rintro i _ _ hi ⟨rfl, v, rfl⟩
      have hi1 : i < xs1.length := by omega
      have hi2 : i < xs2.length := by omega
      have hi3 : i < ds.length := by omega
      obtain ⟨d1, e1, p1⟩ := DpAll.get r1 (List.getElem?_eq_getElem hi1)
      obtain ⟨d2, e2, p2⟩ := DpAll.get r2 (List.getElem?_eq_getElem hi2)
      rw [e1] at e2
      cases e2
      have hm := dep_mem (List.mem_of_getElem? e1)
      have hn : ∃ m, n = m + 1 := ⟨n - 1, by have : 0 < dep d1 := by { cases d1 <;> simp [dep] }; omega⟩
      obtain ⟨m, rfl⟩ := hn
      rw [Int.zero_add]
      k_places
      refine ix_any (.inl h1) (List.getElem?_eq_getElem hi1) ?_
      k_places
      refine ix_any (.inl h2) (List.getElem?_eq_getElem hi2) ?_
      k_places
      refine u_same (n := m) p1 p2 (by omega) (by omega) ?_
      k_places
      exact ⟨rfl, _, rfl⟩
    · rintro _ _ ⟨rfl, v, rfl⟩
      k_places
      exact k
  | @lst a1 xs1 ds h1 r1 =>
    cases hb with
    | @lst a2 xs2 _ h2 r2 =>
    k_places
    have l1 := DpAll.len r1
    have l2 := DpAll.len r2
    simp only [dep] at hd
    simp only [wid] at hw
    refine c_iteKF (by rw [l1, l2]; simp) ?_
    k_places
    refine fr_use (fun i σ' H' => IsH H H' ∧ ∃ v, σ' = [some (.ref a1), some (.ref a2), v]) ⟨rfl, _, rfl⟩ ?_ ?_
    · rintro i _ _ hi ⟨rfl, v, rfl⟩
      have hi1 : i < xs1.length := by omega
      have hi2 : i < xs2.length := by omega
      have hi3 : i < ds.length := by omega
      obtain ⟨d1, e1, p1⟩ := DpAll.get r1 (List.getElem?_eq_getElem hi1)
      obtain ⟨d2, e2, p2⟩ := DpAll.get r2 (List.getElem?_eq_getElem hi2)
      rw [e1] at e2
      cases e2
      have hm := dep_mem (List.mem_of_getElem? e1)
      have hn : ∃ m, n = m + 1 := ⟨n - 1, by have : 0 < dep d1 := by { cases d1 <;> simp [dep] }; omega⟩
      obtain ⟨m, rfl⟩ := hn
      rw [Int.zero_add]
      k_places
      refine ix_any (.inr h1) (List.getElem?_eq_getElem hi1) ?_
      k_places
      refine ix_any (.inr h2) (List.getElem?_eq_getElem hi2) ?_
      k_places
      refine u_same (n := m) p1 p2 (by omega) (by omega) ?_
      k_places
      exact ⟨rfl, _, rfl⟩
    · rintro _ _ ⟨rfl, v, rfl⟩
      k_places
      exact k
end
/-! ### images -/
abbrev Tbl := List (Int × Bool)
abbrev Ins := Str × List Int
abbrev Seg := Int × List Ins
abbrev Img := List Tbl × List Seg × List (List Int)
def cellD (c : Int × Bool) : PyData := .tuple [.int c.1, .bool c.2]
def tabD (t : Tbl) : PyData := .tuple (t.map cellD)
def insD (i : Ins) : PyData := .tuple (.str i.1 :: i.2.map .int)
def segD (s : Seg) : PyData := .tuple [.int s.1, .tuple (s.2.map insD)]
def planD (p : List Int) : PyData := .tuple (p.map .int)
def imgD (m : Img) : PyData := .tuple [.tuple (m.1.map tabD), .tuple (m.2.1.map segD), .tuple (m.2.2.map planD)]
def ops : List Str := ["num", "get", "put", "pace", "pick", "dup", "drop", "bit", "not", "add", "sub", "mul", "min", "max", "lt", "le", "eq", "ne", "ge", "gt", "hop", "hopno", "call", "beat", "back"]
def opsA : List (Str × Nat) := [("num", 1), ("get", 1), ("put", 1), ("pace", 0), ("pick", 1), ("dup", 0), ("drop", 0), ("bit", 0), ("not", 0), ("add", 0), ("sub", 0), ("mul", 0), ("min", 0), ("max", 0), ("lt", 0), ("le", 0), ("eq", 0), ("ne", 0), ("ge", 0), ("gt", 0), ("hop", 1), ("hopno", 1), ("call", 2), ("beat", 1), ("back", 0)]
def okN (n : Int) : Prop := 0 ≤ n ∧ n < 2097152
def okC (c : Int × Bool) : Prop := okN c.1
def okT (t : Tbl) : Prop := t.length ≤ 300 ∧ ∀ c ∈ t, okC c
def okI (i : Ins) : Prop := (i.1, i.2.length) ∈ opsA ∧ ∀ n ∈ i.2, okN n
def okS (s : Seg) : Prop := okN s.1 ∧ s.2.length ≤ 300 ∧ ∀ i ∈ s.2, okI i
def okP (p : List Int) : Prop := p.length ≤ 300 ∧ ∀ n ∈ p, okN n
def okM (m : Img) : Prop := (m.1.length ≤ 300 ∧ ∀ t ∈ m.1, okT t) ∧ (m.2.1.length ≤ 300 ∧ ∀ s ∈ m.2.1, okS s) ∧ (m.2.2.length ≤ 300 ∧ ∀ p ∈ m.2.2, okP p)
/-! ### numbers, bytes -/
def encF : Nat → Int → List Int
  | 0, n => [n]
  | k + 1, n => if n < 128 then [n] else (n.fmod 128 + 128) :: encF k (n.fdiv 128)
def enc (n : Int) : List Int := encF 2 n
def numC (c : Int × Bool) : List Int := [c.1, if c.2 then 1 else 0]
def numT (t : Tbl) : List Int := [(t.length : Int)] ++ t.flatMap numC
def numI (i : Ins) : List Int := [(ops.idxOf i.1 : Int)] ++ i.2
def numS (s : Seg) : List Int := [s.1, (s.2.length : Int)] ++ s.2.flatMap numI
def numP (p : List Int) : List Int := [(p.length : Int)] ++ p
def numM (m : Img) : List Int := [(m.1.length : Int)] ++ m.1.flatMap numT ++ [(m.2.1.length : Int)] ++ m.2.1.flatMap numS ++ [(m.2.2.length : Int)] ++ m.2.2.flatMap numP
def bodyM (m : Img) : List Int := [82] ++ (numM m).flatMap enc
def bytesM (m : Img) : List Int := bodyM m ++ [(bodyM m).sum.fmod 256]
theorem fl_len {α : Type} {e : α → List Int} {c : Nat} : ∀ (ys : List α), (∀ y ∈ ys, (e y).length ≤ c) → (ys.flatMap e).length ≤ ys.length * c
  | [], _ => by simp
  | y :: ys, h => by
    have h1 := h y (List.mem_cons_self ..)
    have h2 := fl_len ys fun z hz => h z (List.mem_cons_of_mem _ hz)
    rw [List.flatMap_cons, List.length_append, List.length_cons, Nat.succ_mul]
    omega
theorem encF_len : ∀ k n, (encF k n).length ≤ k + 1
  | 0, n => by simp [encF]
  | k + 1, n => by
    unfold encF
    split
    · simp
    · have := encF_len k (n.fdiv 128)
      simp
      omega
theorem okI_len {i : Ins} (h : okI i) : i.2.length ≤ 2 := by
  have := h.1
  simp only [opsA, List.mem_cons, Prod.mk.injEq, List.not_mem_nil, or_false] at this
  omega
theorem okI_mem {i : Ins} (h : okI i) : i.1 ∈ ops := by
  have h1 := h.1
  simp only [opsA, List.mem_cons, Prod.mk.injEq, List.not_mem_nil, or_false] at h1
  simp only [ops, List.mem_cons, List.not_mem_nil, or_false]
  rcases h1 with h1 | h1 | h1 | h1 | h1 | h1 | h1 | h1 | h1 | h1 | h1 | h1 | h1 | h1 | h1 | h1 | h1 | h1 | h1 | h1 | h1 | h1 | h1 | h1 | h1 <;> rw [h1.1] <;> simp
theorem numT_len {t : Tbl} (h : okT t) : (numT t).length ≤ 601 := by
  have := fl_len (e := numC) (c := 2) t fun y _ => by simp [numC]
  have := h.1
  unfold numT
  simp only [List.length_append, List.length_singleton]
  omega
theorem numS_len {s : Seg} (h : okS s) : (numS s).length ≤ 902 := by
  have := fl_len (e := numI) (c := 3) s.2 fun y hy => by have := okI_len (h.2.2 y hy); simp [numI]; omega
  have := h.2.1
  unfold numS
  simp only [List.length_append, List.length_cons, List.length_nil]
  omega
theorem numM_len {m : Img} (h : okM m) : (numM m).length ≤ 600000 ∧ (m.1.flatMap numT).length ≤ 180300 ∧ (m.2.1.flatMap numS).length ≤ 270600 ∧ (m.2.2.flatMap numP).length ≤ 90300 := by
  obtain ⟨⟨a1, a2⟩, ⟨b1, b2⟩, c1, c2⟩ := h
  have h1 := fl_len (e := numT) (c := 601) m.1 fun y hy => numT_len (a2 y hy)
  have h2 := fl_len (e := numS) (c := 902) m.2.1 fun y hy => numS_len (b2 y hy)
  have h3 := fl_len (e := numP) (c := 301) m.2.2 fun y hy => by have := (c2 y hy).1; simp [numP]; omega
  unfold numM
  simp only [List.length_append, List.length_singleton]
  omega
theorem enc_len (n : Int) : (enc n).length ≤ 3 := encF_len 2 n
theorem body_len {m : Img} (h : okM m) : ((numM m).flatMap enc).length ≤ 1800000 := by
  have h1 := fl_len (e := enc) (c := 3) (numM m) fun y _ => enc_len y
  have := (numM_len h).1
  omega
theorem idx_ops (s : Str) : (ops.idxOf s : Int) ≤ 25 := by
  have := List.idxOf_le_length (l := ops) (a := s)
  have e : ops.length = 25 := rfl
  omega
theorem okNum {m : Img} (h : okM m) : ∀ n ∈ numM m, okN n := by
  obtain ⟨⟨a1, a2⟩, ⟨b1, b2⟩, c1, c2⟩ := h
  intro n hn
  simp only [numM, List.mem_append, List.mem_singleton, List.mem_flatMap] at hn
  rcases hn with ((((rfl | ⟨t, ht, hn⟩) | rfl) | ⟨s, hs, hn⟩) | rfl) | ⟨p, hp, hn⟩
  · constructor <;> omega
  · obtain ⟨l, hc⟩ := a2 t ht
    simp only [numT, List.mem_append, List.mem_singleton, List.mem_flatMap] at hn
    rcases hn with rfl | ⟨c, hcm, hn⟩
    · constructor <;> omega
    · have := hc c hcm
      simp only [numC, List.mem_cons, List.not_mem_nil, or_false] at hn
      rcases hn with rfl | rfl
      · exact this
      · split <;> constructor <;> omega
  · constructor <;> omega
  · obtain ⟨l0, l, hc⟩ := b2 s hs
    simp only [numS, List.mem_append, List.mem_cons, List.not_mem_nil, or_false, List.mem_flatMap] at hn
    rcases hn with (rfl | rfl) | ⟨i, him, hn⟩
    · exact l0
    · constructor <;> omega
    · simp only [numI, List.mem_append, List.mem_singleton] at hn
      rcases hn with rfl | hn
      · have := idx_ops i.1
        constructor <;> omega
      · exact (hc i him).2 n hn
  · constructor <;> omega
  · obtain ⟨l, hc⟩ := c2 p hp
    simp only [numP, List.mem_append, List.mem_singleton] at hn
    rcases hn with rfl | hn
    · constructor <;> omega
    · exact hc n hn
section
variable {K : PySem.W.Frag} {H H1 : Hp} {v : V} {l : Addr}
theorem dpc {c : Int × Bool} (h : Dp K H v (cellD c)) : ∃ a, v = .ref a ∧ SqT K H a [.int c.1, .bl c.2] := by
  obtain ⟨a, vs, rfl, h, r⟩ := Dp.tup_inv h
  obtain ⟨v1, r1, rfl, h1, r⟩ := DpAll.cons_inv r
  obtain ⟨v2, r2, rfl, h2, r⟩ := DpAll.cons_inv r
  obtain rfl := DpAll.nil_inv r
  obtain rfl := Dp.int_inv h1
  obtain rfl := Dp.bl_inv h2
  exact ⟨a, rfl, h⟩
theorem dpi {i : Ins} (h : Dp K H v (insD i)) : ∃ a, v = .ref a ∧ SqT K H a (.str i.1 :: i.2.map V.int) := by
  obtain ⟨a, vs, rfl, h, r⟩ := Dp.tup_inv h
  obtain ⟨v1, r1, rfl, h1, r2⟩ := DpAll.cons_inv r
  cases Dp.str_inv h1
  cases DpAll.int_inv r2
  exact ⟨a, rfl, h⟩
theorem dps {s : Seg} (h : Dp K H v (segD s)) : ∃ a b vs, v = .ref a ∧ SqT K H a [.int s.1, .ref b] ∧ SqT K H b vs ∧ DpAll K H vs (s.2.map insD) := by
  obtain ⟨a, vs, rfl, h, r⟩ := Dp.tup_inv h
  obtain ⟨v1, r1, rfl, h1, r⟩ := DpAll.cons_inv r
  obtain ⟨v2, r2, rfl, h2, r⟩ := DpAll.cons_inv r
  obtain rfl := DpAll.nil_inv r
  obtain rfl := Dp.int_inv h1
  obtain ⟨b, ws, rfl, hb, rb⟩ := Dp.tup_inv h2
  exact ⟨a, b, ws, rfl, h, hb, rb⟩
theorem dpp {p : List Int} (h : Dp K H v (planD p)) : ∃ a, v = .ref a ∧ SqT K H a (p.map V.int) := by
  obtain ⟨a, vs, rfl, h, r⟩ := Dp.tup_inv h
  obtain rfl := DpAll.int_inv r
  exact ⟨a, rfl, h⟩
theorem dpm {m : Img} (h : Dp K H v (imgD m)) : ∃ a b c d vt vg vp, v = .ref a ∧ SqT K H a [.ref b, .ref c, .ref d] ∧ SqT K H b vt ∧ DpAll K H vt (m.1.map tabD) ∧ SqT K H c vg ∧ DpAll K H vg (m.2.1.map segD) ∧ SqT K H d vp ∧ DpAll K H vp (m.2.2.map planD) := by
  obtain ⟨a, vs, rfl, h, r⟩ := Dp.tup_inv h
  obtain ⟨v1, r1, rfl, h1, r⟩ := DpAll.cons_inv r
  obtain ⟨v2, r2, rfl, h2, r⟩ := DpAll.cons_inv r
  obtain ⟨v3, r3, rfl, h3, r⟩ := DpAll.cons_inv r
  obtain rfl := DpAll.nil_inv r
  obtain ⟨b, vt, rfl, hb, rb⟩ := Dp.tup_inv h1
  obtain ⟨c, vg, rfl, hc, rc⟩ := Dp.tup_inv h2
  obtain ⟨d, vp, rfl, hd, rd⟩ := Dp.tup_inv h3
  exact ⟨a, b, c, d, vt, vg, vp, rfl, h, hb, rb, hc, rc, hd, rd⟩
theorem imm_i (i : Ins) : imm (insD i) = true := by
  have h := immAll_map (d := PyData.int) (fun _ => rfl) i.2
  simp [insD, imm, immAll, h]
theorem imm_s (s : Seg) : imm (segD s) = true := by
  have h := immAll_map imm_i s.2
  simp [segD, imm, immAll, h]
theorem imm_t (t : Tbl) : imm (tabD t) = true := by
  have h := immAll_map (d := cellD) (fun _ => rfl) t
  simp [tabD, imm, h]
theorem imm_p (p : List Int) : imm (planD p) = true := by
  have h := immAll_map (d := PyData.int) (fun _ => rfl) p
  simp [planD, imm, h]
theorem imm_m (m : Img) : imm (imgD m) = true := by
  have h1 := immAll_map imm_t m.1
  have h2 := immAll_map imm_s m.2.1
  have h3 := immAll_map imm_p m.2.2
  simp [imgD, imm, immAll, h1, h2, h3]
theorem dl_int (l : List V) (t : List PyData) (h : DpAll K H l t) : (l.length : Int) = (t.length : Int) := by rw [DpAll.len h]
end
/-! ### packing -/
local macro_rules | `(tactic| nest_fact) => `(tactic| first | (first | exact immAll_map imm_s _ | exact immAll_map imm_t _ | exact immAll_map imm_p _ | exact immAll_map imm_i _ | exact imm_m _ | exact imm_s _ | exact imm_t _) | fail)
def sp_groups (_K : PySem.W.Frag) : Sp := Sp1 fun a H Q _ => ∃ n : Int, a = .int n ∧ okN n ∧ ∀ p H', H p = none → Same H H' → H' p = some (.lst ((enc n).map V.int)) → Q (.ref p) H'
def sp_table_numbers (K : PySem.W.Frag) : Sp := Sp1 fun a H Q _ => ∃ t : Tbl, okT t ∧ Dp K H a (tabD t) ∧ ∀ p H', H p = none → Same H H' → H' p = some (.lst ((numT t).map V.int)) → Q (.ref p) H'
def sp_segment_numbers (K : PySem.W.Frag) : Sp := Sp1 fun a H Q _ => ∃ s : Seg, okS s ∧ Dp K H a (segD s) ∧ ∀ p H', H p = none → Same H H' → H' p = some (.lst ((numS s).map V.int)) → Q (.ref p) H'
def sp_pack_image (K : PySem.W.Frag) : Sp := Sp1 fun a H Q _ => ∃ m : Img, okM m ∧ Dp K H a (imgD m) ∧ ∀ p H', H p = none → Same H H' → H' p = some (.lst ((bytesM m).map V.int)) → Q (.ref p) H'
abbrev n_groups : List Str := ["number", "data"]
abbrev t_groups (K : PySem.W.Frag) : TS :=
    tSeq (tAsg (tLst (tNil)) (gName 1))
            (tSeq (tWhile (tTest (tOp rGe (tVar 0) (tC (.int 128)))) (tSeq (tDrop (tBM K "list" rAppend (tVar 1) (tCons (tOp rAddI (tOp rModN (tVar 0) (tC (.int 128))) (tC (.int 128))) (tNil))))
            (tAsg (tOp rDivN (tVar 0) (tC (.int 128))) (gName 0))))
            (tRet (tOp rCat (tVar 1) (tLst (tCons (tVar 0) (tNil))))))

abbrev n_table_numbers : List Str := ["table", "numbers", "top", "kept"]
abbrev t_table_numbers (K : PySem.W.Frag) : TS :=
    tSeq (tAsg (tLst (tCons (tCB (rLen K) (tCons (tVar 0) (tNil))) (tNil))) (gName 1))
            (tSeq (tFor (iTup K (tVar 0)) (gTup K 2 (gCons (gName 2) (gCons (gName 3) (gNil)))) (tDrop (tBM K "list" rExtend (tVar 1) (tCons (tLst (tCons (tVar 2) (tCons (tIf (tTru K (tVar 3)) (tC (.int 1)) (tC (.int 0))) (tNil)))) (tNil)))))
            (tRet (tVar 1)))

abbrev n_segment_numbers : List Str := ["segment", "table", "code", "numbers", "instruction"]
abbrev t_segment_numbers (K : PySem.W.Frag) : TS :=
    tSeq (tAsg (tVar 0) (gTup K 2 (gCons (gName 1) (gCons (gName 2) (gNil)))))
            (tSeq (tAsg (tLst (tCons (tVar 1) (tCons (tCB (rLen K) (tCons (tVar 2) (tNil))) (tNil)))) (gName 3))
            (tSeq (tFor (iTup K (tVar 2)) (gName 4) (tSeq (tDrop (tBM K "list" rAppend (tVar 3) (tCons (tBM K "tuple" (rIndexT K) (tC (.ref (He.ga K ("OPERATIONS" : Str)))) (tCons (tOp (rIxT K) (tVar 4) (tC (.int 0))) (tNil))) (tNil))))
            (tDrop (tBM K "list" (rExtendT K) (tVar 3) (tCons (tSl (L2.rSlA K) (tVar 4) (tPart (tC (.int 1))) (tNoPart)) (tNil))))))
            (tRet (tVar 3))))

section
variable {K : PySem.W.Frag} {vs : List V} {H : Hp} {Q : VK} {E : XK}
theorem u_groups {n : Int} (h : okN n) (k : ∀ p H', H p = none → Same H H' → H' p = some (.lst ((enc n).map V.int)) → Q (.ref p) H') : sp_groups K [.int n] H Q E := ⟨_, rfl, n, rfl, h, k⟩
theorem u_table {a : V} {t : Tbl} (h : okT t) (hd : Dp K H a (tabD t)) (k : ∀ p H', H p = none → Same H H' → H' p = some (.lst ((numT t).map V.int)) → Q (.ref p) H') : sp_table_numbers K [a] H Q E := ⟨_, rfl, t, h, hd, k⟩
theorem u_segment {a : V} {s : Seg} (h : okS s) (hd : Dp K H a (segD s)) (k : ∀ p H', H p = none → Same H H' → H' p = some (.lst ((numS s).map V.int)) → Q (.ref p) H') : sp_segment_numbers K [a] H Q E := ⟨_, rfl, s, h, hd, k⟩
theorem u_pack {a : V} {m : Img} (h : okM m) (hd : Dp K H a (imgD m)) (k : ∀ p H', H p = none → Same H H' → H' p = some (.lst ((bytesM m).map V.int)) → Q (.ref p) H') : sp_pack_image K [a] H Q E := ⟨_, rfl, m, h, hd, k⟩
theorem fd128 {n : Int} (h : 0 ≤ n) : n.fdiv 128 = n / 128 := Int.fdiv_eq_ediv_of_nonneg _ (by omega)
theorem fmd128 {n : Int} (h : 0 ≤ n) : n.fmod 128 = n % 128 := Int.fmod_eq_emod_of_nonneg _ (by omega)
theorem rd_groups (C : CF K) (h : sp_groups K vs H Q E) : t_groups K { nx := fun _ H' => Q .non H', rt := Q } (start n_groups vs) H := by
  obtain ⟨_, rfl, n, rfl, hn, k⟩ := h
  show t_groups K _ [some (.int n), none] H
  k_places
  rename_i l H1 hl hS1 h1
  refine wh_use (fun j σ' H' => Same H H' ∧ ∃ (r : Int) (s : List Int), σ' = [some (.int r), some (.ref l)] ∧ H' l = some (.lst (s.map V.int)) ∧ s ++ encF j r = enc n ∧ 0 ≤ r ∧ r < 128 ^ (j + 1) ∧ s.length + j ≤ 2 ∧ j ≤ 2) 2 ⟨hS1, n, [], rfl, h1, rfl, hn.1, hn.2, by decide, by decide⟩ ?_
  rintro j _ H2 ⟨hS2, r, s, rfl, h2, he, h0, hlt, hz, hj⟩
  k_places
  refine c_ite (fun h => ?_) (fun h => ?_)
  · refine c_whB ?_
    k_places
    rename_i H3 hM3 h3
    obtain ⟨j, rfl⟩ : ∃ i, j = i + 1 := by
      cases j with
      | zero => exfalso; omega
      | succ i => exact ⟨i, rfl⟩
    refine ⟨j, Nat.lt_succ_self _, by k_offL, _, s ++ [r.fmod 128 + 128], rfl, lst_is h3 (by simp), ?_, ?_, ?_, ?_, ?_⟩
    · rw [← he]
      simp only [encF, if_neg (by omega : ¬ r < 128), List.append_assoc, List.singleton_append]
    · rw [fd128 h0]; omega
    · rw [fd128 h0, Int.ediv_lt_iff_lt_mul (by decide)]
      rw [Int.pow_succ] at hlt
      exact hlt
    · simp; omega
    · omega
  · k_places
    rename_i p1 H3 hp1 hS3 h3 p2 H4 hp2 hS4 h4
    refine k p2 H4 (by k_memK) (by k_offL) (lst_is h4 ?_)
    rw [← he]
    cases j with
    | zero => simp [encF]
    | succ j => simp [encF, if_pos (by omega : r < 128)]
theorem rd_table_numbers (C : CF K) (h : sp_table_numbers K vs H Q E) : t_table_numbers K { nx := fun _ H' => Q .non H', rt := Q } (start n_table_numbers vs) H := by
  obtain ⟨_, rfl, t, hok, hd, k⟩ := h
  obtain ⟨a, us, rfl, ha, hu⟩ := Dp.tup_inv hd
  have hlen := DpAll.len hu
  rw [List.length_map] at hlen
  show t_table_numbers K _ [some (.ref a), none, none, none] H
  k_places
  rename_i l H1 hl hS1 h1
  rw [hlen] at h1
  refine ft_app cellD numC t [(t.length : Int)] 601 (by k_subL) (by k_subL) (by rw [← List.length_append]; exact numT_len hok) (fun s σ' H' => Same H H' ∧ H' l = some (.lst (s.map V.int)) ∧ ∃ x y, σ' = [some (.ref a), some (.ref l), x, y]) (fun s σ' H' p => ⟨sqt_s p.1 ha, DpAll.same p.1 hu⟩) ⟨hS1, h1, _, _, rfl⟩ ?_ ?_
  · rintro s c v _ H2 hc hz hv ⟨hS2, h2, x, y, rfl⟩
    obtain ⟨b, rfl, hb⟩ := dpc hv
    k_places
    refine c_iteb (fun hk => ?_) (fun hk => ?_) <;> k_places
    all_goals
      exact ⟨by k_offL, lst_is (by assumption) (by simp [numC, hk]), _, _, rfl⟩
  · rintro _ H2 ⟨hS2, h2, x, y, rfl⟩
    k_places
    exact k l H2 (by k_memK) hS2 h2
theorem rd_segment_numbers (C : CF K) (h : sp_segment_numbers K vs H Q E) : t_segment_numbers K { nx := fun _ H' => Q .non H', rt := Q } (start n_segment_numbers vs) H := by
  obtain ⟨_, rfl, t, hok, hd, k⟩ := h
  obtain ⟨a, b, us, rfl, ha, hb, hu⟩ := dps hd
  have hlen := DpAll.len hu
  rw [List.length_map] at hlen
  show t_segment_numbers K _ [some (.ref a), none, none, none, none] H
  k_places
  rename_i l H1 hl hS1 h1
  rw [hlen] at h1
  refine ft_app insD numI t.2 [t.1, (t.2.length : Int)] 902 (by k_subL) (by k_subL) (by rw [← List.length_append]; exact numS_len hok) (fun s σ' H' => Same H H' ∧ H' l = some (.lst (s.map V.int)) ∧ ∃ x, σ' = [some (.ref a), some (.int t.1), some (.ref b), some (.ref l), x]) (fun s σ' H' p => ⟨sqt_s p.1 hb, DpAll.same p.1 hu⟩) ⟨hS1, h1, _, rfl⟩ ?_ ?_
  · rintro s c v _ H2 hc hz hv ⟨hS2, h2, x, rfl⟩
    obtain ⟨e, rfl, he⟩ := dpi hv
    have hi := hok.2.2 c hc
    have hi2 := okI_len hi
    have hz2 : s.length ≤ 902 := by omega
    k_places
    refine c_indexT (ys := ops) (CF.tu_OPERATIONS C _) (okI_mem hi) ?_
    k_places
    rename_i H3 hM3 h3 q H4 hS4 h4
    rw [cutV_drop (by decide)] at h4
    refine c_extendT (zs := c.2.map V.int) (by k_subL) h4 (by k_caughtNB) (fun H5 hM5 h5 => ?_)
    k_places
    exact ⟨by k_offL, lst_is h5 (by simp [numI]), _, rfl⟩
  · rintro _ H2 ⟨hS2, h2, x, rfl⟩
    k_places
    exact k l H2 (by k_memK) hS2 h2
abbrev n_pack_image : List Str := ["image", "tables", "segments", "plan", "numbers", "table", "segment", "entry", "data", "number"]
abbrev t_pack_image (K : PySem.W.Frag) : TS :=
    tSeq (tAsg (tVar 0) (gTup K 3 (gCons (gName 1) (gCons (gName 2) (gCons (gName 3) (gNil))))))
            (tSeq (tAsg (tLst (tCons (tCB (rLen K) (tCons (tVar 1) (tNil))) (tNil))) (gName 4))
            (tSeq (tFor (iTup K (tVar 1)) (gName 5) (tDrop (tBM K "list" rExtend (tVar 4) (tCons (tCall (sp_table_numbers K) [] E0 (tCons (tVar 5) (tNil))) (tNil)))))
            (tSeq (tDrop (tBM K "list" rAppend (tVar 4) (tCons (tCB (rLen K) (tCons (tVar 2) (tNil))) (tNil))))
            (tSeq (tFor (iTup K (tVar 2)) (gName 6) (tDrop (tBM K "list" rExtend (tVar 4) (tCons (tCall (sp_segment_numbers K) [] E0 (tCons (tVar 6) (tNil))) (tNil)))))
            (tSeq (tDrop (tBM K "list" rAppend (tVar 4) (tCons (tCB (rLen K) (tCons (tVar 3) (tNil))) (tNil))))
            (tSeq (tFor (iTup K (tVar 3)) (gName 7) (tDrop (tBM K "list" rExtend (tVar 4) (tCons (tOp rCat (tLst (tCons (tCB (rLen K) (tCons (tVar 7) (tNil))) (tNil))) (tCB (rListOf K) (tCons (tVar 7) (tNil)))) (tNil)))))
            (tSeq (tAsg (tLst (tCons (tC (.int 82)) (tNil))) (gName 8))
            (tSeq (tFor (iList K (tVar 4)) (gName 9) (tDrop (tBM K "list" rExtend (tVar 8) (tCons (tCall (sp_groups K) [] E0 (tCons (tVar 9) (tNil))) (tNil)))))
            (tRet (tOp rCat (tVar 8) (tLst (tCons (tOp rModN (tCB (rSum K) (tCons (tVar 8) (tNil))) (tC (.int 256))) (tNil)))))))))))))

theorem rd_pack_image (C : CF K) (h : sp_pack_image K vs H Q E) : t_pack_image K { nx := fun _ H' => Q .non H', rt := Q } (start n_pack_image vs) H := by
  obtain ⟨_, rfl, m, hok, hd, k⟩ := h
  obtain ⟨a, b, c, d, vt, vg, vp, rfl, ha, hb, rb, hc, rc, hd, rd⟩ := dpm hd
  have lb := DpAll.len rb
  have lc := DpAll.len rc
  have ld := DpAll.len rd
  rw [List.length_map] at lb lc ld
  obtain ⟨nl, n1, n2, n3⟩ := numM_len hok
  show t_pack_image K _ [some (.ref a), none, none, none, none, none, none, none, none, none] H
  k_places
  rename_i l H1 hl hS1 h1
  rw [lb] at h1
  refine ft_app tabD numT m.1 [(m.1.length : Int)] 1000000 (by k_subL) (by k_subL) (by simp only [List.length_append, List.length_cons, List.length_nil]; omega) (fun s σ' H' => Same H H' ∧ H' l = some (.lst (s.map V.int)) ∧ ∃ x1 x2 x3 x4 x5, σ' = [some (.ref a), some (.ref b), some (.ref c), some (.ref d), some (.ref l), x1, x2, x3, x4, x5]) (fun s σ' H' p => ⟨sqt_s p.1 hb, DpAll.same p.1 rb⟩) ⟨hS1, h1, _, _, _, _, _, rfl⟩ ?_ ?_
  · rintro s t v _ H2 ht hz hv ⟨hS2, h2, x1, x2, x3, x4, x5, rfl⟩
    k_places
    refine u_table (hok.1.2 t ht) hv fun p H3 hp hS3 h3 => ?_
    k_places
    exact ⟨by k_offL, lst_is (by assumption) (by simp), _, _, _, _, _, rfl⟩
  rintro _ H2 ⟨hS2, h2, x1, x2, x3, x4, x5, rfl⟩
  k_places
  rename_i H3 hM3 h3
  rw [lc] at h3
  refine ft_app segD numS m.2.1 ([(m.1.length : Int)] ++ m.1.flatMap numT ++ [(m.2.1.length : Int)]) 1000000 (vs := vg) (by k_subL) (by k_subL) (by simp only [List.length_append, List.length_cons, List.length_nil]; omega) (fun s σ' H' => Same H H' ∧ H' l = some (.lst (s.map V.int)) ∧ ∃ x1 x2 x3 x4 x5, σ' = [some (.ref a), some (.ref b), some (.ref c), some (.ref d), some (.ref l), x1, x2, x3, x4, x5]) (fun s σ' H' p => ⟨sqt_s p.1 hc, DpAll.same p.1 rc⟩) ⟨by k_offL, lst_is h3 (by simp), _, _, _, _, _, rfl⟩ ?_ ?_
  · rintro s t v _ H4 ht hz hv ⟨hS4, h4, x1, x2, x3, x4, x5, rfl⟩
    k_places
    refine u_segment (hok.2.1.2 t ht) hv fun p H5 hp hS5 h5 => ?_
    k_places
    exact ⟨by k_offL, lst_is (by assumption) (by simp), _, _, _, _, _, rfl⟩
  rintro _ H4 ⟨hS4, h4, x1, x2, x3, x4, x5, rfl⟩
  k_places
  rename_i H5 hM5 h5
  rw [ld] at h5
  refine ft_app planD numP m.2.2 ([(m.1.length : Int)] ++ m.1.flatMap numT ++ [(m.2.1.length : Int)] ++ m.2.1.flatMap numS ++ [(m.2.2.length : Int)]) 1000000 (vs := vp) (by k_subL) (by k_subL) (by simp only [List.length_append, List.length_cons, List.length_nil]; omega) (fun s σ' H' => Same H H' ∧ H' l = some (.lst (s.map V.int)) ∧ ∃ x1 x2 x3 x4 x5, σ' = [some (.ref a), some (.ref b), some (.ref c), some (.ref d), some (.ref l), x1, x2, x3, x4, x5]) (fun s σ' H' p => ⟨sqt_s p.1 hd, DpAll.same p.1 rd⟩) ⟨by k_offL, lst_is h5 (by simp), _, _, _, _, _, rfl⟩ ?_ ?_
  · rintro s t v _ H6 ht hz hv ⟨hS6, h6, x1, x2, x3, x4, x5, rfl⟩
    obtain ⟨e, rfl, he⟩ := dpp hv
    have hl3 := (hok.2.2.2 t ht).1
    k_places
    rename_i H7 hM7 h7
    exact ⟨by k_offL, lst_is h7 (by simp [numP]), _, _, _, _, _, rfl⟩
  rintro _ H6 ⟨hS6, h6, x1, x2, x3, x4, x5, rfl⟩
  k_places
  rename_i q H7 hq hS7 h7
  have hnum := okNum hok
  have hbl := body_len hok
  refine fl_app V.int enc (numM m) [82] 1800001 (by k_subL) (by simp only [List.length_append, List.length_cons, List.length_nil]; omega) (fun s σ' H' => Same H H' ∧ H' l = some (.lst ((numM m).map V.int)) ∧ H' q = some (.lst (s.map V.int)) ∧ ∃ x1 x2 x3 x5, σ' = [some (.ref a), some (.ref b), some (.ref c), some (.ref d), some (.ref l), x1, x2, x3, some (.ref q), x5]) (fun s σ' H' p => SqL.of p.2.1) ⟨by k_offL, by k_subL, h7, _, _, _, _, rfl⟩ ?_ ?_
  · rintro s n _ H8 hn hz ⟨hS8, hl8, h8, x1, x2, x3, x5, rfl⟩
    k_places
    refine u_groups (hnum n hn) fun p H9 hp hS9 h9 => ?_
    k_places
    have hlq : l ≠ q := ne_of_none (by assumption) hq
    exact ⟨by k_offL, by k_subL, lst_is (by assumption) (by simp), _, _, _, _, rfl⟩
  rintro _ H8 ⟨hS8, hl8, h8, x1, x2, x3, x5, rfl⟩
  k_places
  exact k _ _ (by k_memK) (by k_offL) (lst_is (by assumption) (by simp [bytesM, bodyM]))
end
/-! ### reading -/
abbrev Rdr (K : PySem.W.Frag) (H : Hp) (r dx d : Addr) (p e : Int) : Prop := H r = some (.ins (He.ga K "Reader") dx [("data", .ref d), ("place", .int p), ("end", .int e)])
theorem dp_int {K : PySem.W.Frag} {H : Hp} {i j : Int} (e : i = j) : Dp K H (.int i) (.int j) := e ▸ .int i
theorem encF_step {k : Nat} {m : Int} (h : ¬ m < 128) : encF (k + 1) m = (m.fmod 128 + 128) :: encF k (m.fdiv 128) := if_neg h
theorem rdr_is {K : PySem.W.Frag} {H : Hp} {r dx d : Addr} {p q e : Int} (h : Rdr K H r dx d p e) (z : p = q) : Rdr K H r dx d q e := z ▸ h
/-- the reader at r stands before en x: x is read -/
def RdP {α : Type} (K : PySem.W.Frag) (en : α → List Int) (dat : α → PyData) (ok : α → Prop) (a : V) (H : Hp) (Q : VK) : Prop := ∃ (r dx d : Addr) (bs pre : List Int) (x : α) (post : List Int), a = .ref r ∧ ok x ∧ Rdr K H r dx d (pre.length : Int) ((bs.length : Int) - 1) ∧
  H d = some (.lst (bs.map V.int)) ∧ bs = pre ++ en x ++ post ∧ post ≠ [] ∧ ∀ v H', Mu r H H' → Rdr K H' r dx d ((pre ++ en x).length : Int) ((bs.length : Int) - 1) → Dp K H' v (dat x) → Q v H'
def encC (c : Int × Bool) : List Int := enc c.1 ++ enc (if c.2 then 1 else 0)
def encT (t : Tbl) : List Int := enc t.length ++ t.flatMap encC
def encI (i : Ins) : List Int := enc (ops.idxOf i.1 : Nat) ++ i.2.flatMap enc
def encS (s : Seg) : List Int := enc s.1 ++ enc s.2.length ++ s.2.flatMap encI
def encP (p : List Int) : List Int := enc p.length ++ p.flatMap enc
def sp_argument_count (_K : PySem.W.Frag) : Sp := Sp1 fun a H Q _ => ∃ (s : Str) (n : Nat), a = .str s ∧ (s, n) ∈ opsA ∧ Q (.int n) H
def sp_Readeru_initu (K : PySem.W.Frag) : Sp := Sp2 fun a b H Q _ => ∃ (x dx d : Addr) (bs : List Int), a = .ref x ∧ b = .ref d ∧ H x = some (.ins (He.ga K "Reader") dx []) ∧ H d = some (.lst (bs.map V.int)) ∧ ∀ H', Mu x H H' → Rdr K H' x dx d 1 ((bs.length : Int) - 1) → Q .non H'
def sp_Reader_next_byte (K : PySem.W.Frag) : Sp := Sp1 fun a H Q _ => RdP K (fun n : Int => [n]) .int (fun _ => True) a H Q
def sp_Reader_next_number (K : PySem.W.Frag) : Sp := Sp1 fun a H Q _ => RdP K enc .int okN a H Q
def sp_Reader_next_numbers (K : PySem.W.Frag) : Sp := Sp1 fun a H Q _ => RdP K encP planD okP a H Q
def sp_Reader_next_cell (K : PySem.W.Frag) : Sp := Sp1 fun a H Q _ => RdP K encC cellD okC a H Q
def sp_Reader_next_table (K : PySem.W.Frag) : Sp := Sp1 fun a H Q _ => RdP K encT tabD okT a H Q
def sp_Reader_next_instruction (K : PySem.W.Frag) : Sp := Sp1 fun a H Q _ => RdP K encI insD okI a H Q
def sp_Reader_next_segment (K : PySem.W.Frag) : Sp := Sp1 fun a H Q _ => RdP K encS segD okS a H Q
abbrev n_argument_count : List Str := ["name"]
abbrev t_argument_count (K : PySem.W.Frag) : TS :=
    tRet (tKGet2 K (He.ga K ("ARGUMENTS" : Str)) (tVar 0) (tC (.int 0)))

abbrev n_Readeru_initu : List Str := ["self", "data"]
abbrev t_Readeru_initu (K : PySem.W.Frag) : TS :=
    tSeq (sFld K (tVar 0) (tVar 1) ("data" : Str))
            (tSeq (sFld K (tVar 0) (tC (.int 1)) ("place" : Str))
            (sFld K (tVar 0) (tOp rSubI (tCB (rLen K) (tCons (tVar 1) (tNil))) (tC (.int 1))) ("end" : Str)))

abbrev n_Reader_next_byte : List Str := ["self", "found"]
abbrev t_Reader_next_byte (K : PySem.W.Frag) : TS :=
    tSeq (tIfS (tTest (tOp rGe (tFld K (tVar 0) ("place" : Str)) (tFld K (tVar 0) ("end" : Str)))) (tNever) (tNext))
            (tSeq (tAsg (tOp (rIxL K) (tFld K (tVar 0) ("data" : Str)) (tFld K (tVar 0) ("place" : Str))) (gName 1))
            (tSeq (sFld K (tVar 0) (tOp rAddI (tFld K (tVar 0) ("place" : Str)) (tC (.int 1))) ("place" : Str))
            (tRet (tVar 1))))

abbrev n_Reader_next_number : List Str := ["self", "total", "unit", "count", "group"]
abbrev t_Reader_next_number (K : PySem.W.Frag) : TS :=
    tSeq (tAsg (tC (.int 0)) (gName 1))
            (tSeq (tAsg (tC (.int 1)) (gName 2))
            (tSeq (tFor (iRng1 (tCons (tC (.int 3)) (tNil))) (gName 3) (tSeq (tAsg (tMeth (He.ga K ("Reader" : Str)) ("next_byte" : Str) (sp_Reader_next_byte K) [] E0 (tVar 0) tNil) (gName 4))
            (tSeq (tIfS (tAnd (tTest (tOp rEq (tVar 4) (tC (.int 0)))) (tTest (tOp rGt (tVar 3) (tC (.int 0))))) (tNever) (tNext))
            (tSeq (tIfS (tTest (tOp rLt (tVar 4) (tC (.int 128)))) (tRet (tOp rAddI (tVar 1) (tOp rMulI (tVar 4) (tVar 2)))) (tNext))
            (tSeq (tAsg (tOp rAddI (tVar 1) (tOp rMulI (tOp rSubI (tVar 4) (tC (.int 128))) (tVar 2))) (gName 1))
            (tAsg (tOp rMulI (tVar 2) (tC (.int 128))) (gName 2)))))))
            (tNever)))

section
variable {K : PySem.W.Frag} {vs : List V} {H : Hp} {Q : VK} {E : XK} {α : Type} {en : α → List Int} {dat : α → PyData} {ok : α → Prop} {r dx d : Addr} {bs : List Int}
theorem u_rd (pre : List Int) (x : α) (post : List Int) (hk : ok x) (h : Rdr K H r dx d (pre.length : Int) ((bs.length : Int) - 1)) (hd : H d = some (.lst (bs.map V.int))) (hb : bs = pre ++ en x ++ post) (hp : post ≠ [])
    (k : ∀ v H', Mu r H H' → Rdr K H' r dx d ((pre ++ en x).length : Int) ((bs.length : Int) - 1) → Dp K H' v (dat x) → Q v H') : Sp1 (fun a H Q _ => RdP K en dat ok a H Q) [.ref r] H Q E := ⟨_, rfl, r, dx, d, bs, pre, x, post, rfl, hk, h, hd, hb, hp, k⟩
theorem u_argc {s : Str} {n : Nat} (h : (s, n) ∈ opsA) (k : Q (.int n) H) : sp_argument_count K [.str s] H Q E := ⟨_, rfl, s, n, rfl, h, k⟩
theorem u_init (h : H r = some (.ins (He.ga K "Reader") dx [])) (hd : H d = some (.lst (bs.map V.int))) (k : ∀ H', Mu r H H' → Rdr K H' r dx d 1 ((bs.length : Int) - 1) → Q .non H') : sp_Readeru_initu K [.ref r, .ref d] H Q E := ⟨_, _, rfl, r, dx, d, bs, rfl, rfl, h, hd, k⟩
theorem rd_argument_count (C : CF K) (h : sp_argument_count K vs H Q E) : t_argument_count K { nx := fun _ H' => Q .non H', rt := Q } (start n_argument_count vs) H := by
  obtain ⟨_, rfl, s, n, rfl, hm, k⟩ := h
  show t_argument_count K _ [some (.str s)] H
  k_places
  refine c_kget2 (v := .int n) (CF.kd_ARGUMENTS C s _ _ ?_) k
  simp only [opsA, List.mem_cons, Prod.mk.injEq, List.not_mem_nil, or_false] at hm ⊢
  rcases hm with h | h | h | h | h | h | h | h | h | h | h | h | h | h | h | h | h | h | h | h | h | h | h | h | h <;> obtain ⟨rfl, rfl⟩ := h <;> simp
theorem rd_Readeru_initu (C : CF K) (h : sp_Readeru_initu K vs H Q E) : t_Readeru_initu K { nx := fun _ H' => Q .non H', rt := Q } (start n_Readeru_initu vs) H := by
  obtain ⟨_, _, rfl, x, dx, d, bs, rfl, rfl, hx, hd, k⟩ := h
  have hne : d ≠ x := ne_of hd hx (by intro z; cases z)
  show t_Readeru_initu K _ [some (.ref x), some (.ref d)] H
  k_places
  rename_i H1 hM1 h1 H2 hM2 h2 H3 hM3 h3
  rw [List.length_map] at h3
  exact k _ (by k_allIn) h3
theorem rd_Reader_next_byte (C : CF K) (h : sp_Reader_next_byte K vs H Q E) : t_Reader_next_byte K { nx := fun _ H' => Q .non H', rt := Q } (start n_Reader_next_byte vs) H := by
  obtain ⟨_, rfl, r, dx, d, bs, pre, x, post, rfl, -, hr, hd, hb, hp, k⟩ := h
  have hl : (bs.length : Int) = pre.length + 1 + post.length := by rw [hb]; simp; omega
  have hpl := List.length_pos_iff.mpr hp
  show t_Reader_next_byte K _ [some (.ref r), none] H
  k_places
  refine c_ite (fun h => ?_) (fun h => ?_)
  · exfalso; omega
  k_places
  refine c_ixL (v := .int x) (SqL.of hd) (atI_nat (by rw [hb]; simp)) ?_
  k_places
  exact k _ _ (by assumption) (rdr_is (by assumption) (by simp)) (.int x)
theorem rd_Reader_next_number (C : CF K) (h : sp_Reader_next_number K vs H Q E) : t_Reader_next_number K { nx := fun _ H' => Q .non H', rt := Q } (start n_Reader_next_number vs) H := by
  obtain ⟨_, rfl, r, dx, d, bs, pre, n, post, rfl, hn, hr, hd, hb, hp, k⟩ := h
  have hne : d ≠ r := ne_of hd hr (by intro z; cases z)
  show t_Reader_next_number K _ [some (.ref r), none, none, none, none] H
  k_places
  refine fr0_use (fun i σ' H' => i ≤ 2 ∧ Mu r H H' ∧ ∃ (pre' : List Int) (m tot un : Int) (x y : Option V), σ' = [some (.ref r), some (.int tot), some (.int un), x, y] ∧ Rdr K H' r dx d (pre'.length : Int) ((bs.length : Int) - 1) ∧ pre' ++ encF (2 - i) m = pre ++ enc n ∧
    un = 128 ^ i ∧ tot + un * m = n ∧ 0 ≤ m ∧ m < 128 ^ (3 - i) ∧ (1 ≤ i → 1 ≤ m)) ⟨by omega, Same.mu (Same.refl H), pre, n, 0, 1, none, none, rfl, hr, rfl, rfl, by omega, hn.1, hn.2, by omega⟩ ?_ ?_
  · rintro i _ H1 hi ⟨hi2, hM, pre', m, tot, un, x, y, rfl, hr1, he, hu, ht, h0, hlt, h1⟩
    have hb1 : bs = pre' ++ encF (2 - i) m ++ post := by rw [hb, he]
    by_cases hm : m < 128
    · have e1 : encF (2 - i) m = [m] := by
        obtain rfl | rfl | rfl : i = 0 ∨ i = 1 ∨ i = 2 := by omega
        all_goals simp [encF, hm]
      rw [e1] at hb1 he
      k_places
      refine u_rd (bs := bs) (dx := dx) (d := d) pre' m post trivial hr1 (by k_subL) hb1 hp fun v H2 hM2 hr2 hv => ?_
      obtain rfl := Dp.int_inv hv
      k_places
      refine c_iteb (fun h => ?_) (fun h => ?_)
      · exfalso
        simp only [Bool.and_eq_true, decide_eq_true_eq] at h
        omega
      k_places
      refine c_ite (fun h => ?_) (fun h => ?_)
      · obtain rfl | rfl | rfl : i = 0 ∨ i = 1 ∨ i = 2 := by omega
        all_goals
          simp only [Int.pow_zero, Int.pow_one, Int.reducePow] at hu ht
          subst hu
          k_places
          refine k _ _ (Mu.trans hM hM2) (rdr_is hr2 (by rw [he])) ?_
          exact dp_int (by omega)
      · exfalso; omega
    · obtain rfl | rfl : i = 0 ∨ i = 1 := by
        have : i ≠ 2 := by
          rintro rfl
          simp at hlt
          omega
        omega
      all_goals
        obtain ⟨tl, hb2, he2⟩ : ∃ tl, bs = pre' ++ [m.fmod 128 + 128] ++ (tl ++ post) ∧ pre' ++ [m.fmod 128 + 128] ++ tl = pre ++ enc n ∧ (tl = encF 1 (m.fdiv 128) ∧ un = 1 ∨ tl = encF 0 (m.fdiv 128) ∧ un = 128) := by
          first
          | (rw [show 2 - 0 = 1 + 1 from rfl, encF_step hm] at hb1 he; exact ⟨_, by rw [hb1]; simp, by rw [← he]; simp, .inl ⟨rfl, hu⟩⟩)
          | (rw [show 2 - 1 = 0 + 1 from rfl, encF_step hm] at hb1 he; exact ⟨_, by rw [hb1]; simp, by rw [← he]; simp, .inr ⟨rfl, hu⟩⟩)
        k_places
        refine u_rd (bs := bs) (dx := dx) (d := d) pre' (m.fmod 128 + 128) _ trivial hr1 (by k_subL) hb2 (by simp [hp]) fun v H2 hM2 hr2 hv => ?_
        obtain rfl := Dp.int_inv hv
        have := fm (a := m) (b := 128) (by decide)
        k_places
        refine c_iteb (fun h => ?_) (fun h => ?_)
        · exfalso
          simp only [Bool.and_eq_true, decide_eq_true_eq] at h
          omega
        k_places
        refine c_ite (fun h => ?_) (fun h => ?_)
        · exfalso; omega
        simp only [Int.pow_zero, Int.pow_one, Int.reducePow] at hu ht
        subst hu
        k_places
        refine ⟨by omega, Mu.trans hM hM2, pre' ++ [m.fmod 128 + 128], m.fdiv 128, _, _, _, _, rfl, hr2, by rw [← he2.1]; rcases he2.2 with ⟨e, z⟩ | ⟨e, z⟩ <;> first | (rw [e]; done) | (exfalso; omega), by simp, ?_, ?_, ?_, ?_⟩
        all_goals rw [fd128 h0] at *
        all_goals (try rw [fmd128 h0] at *)
        all_goals (first | omega | (simp at hlt ⊢; omega))
  · rintro _ H1 ⟨hi2, _⟩
    exfalso; omega
abbrev n_Reader_next_numbers : List Str := ["self", "many", "_"]
abbrev t_Reader_next_numbers (K : PySem.W.Frag) : TS :=
    tSeq (tAsg (tMeth (He.ga K ("Reader" : Str)) ("next_number" : Str) (sp_Reader_next_number K) [] E0 (tVar 0) tNil) (gName 1))
            (tRet (tCB (rTupleOf K) (tCons (tLc (iRng1 (tCons (tVar 1) (tNil))) (gName 2) (tYes) (tMeth (He.ga K ("Reader" : Str)) ("next_number" : Str) (sp_Reader_next_number K) [] E0 (tVar 0) tNil) [2]) (tNil))))

abbrev n_Reader_next_cell : List Str := ["self", "top", "kept"]
abbrev t_Reader_next_cell (K : PySem.W.Frag) : TS :=
    tSeq (tAsg (tMeth (He.ga K ("Reader" : Str)) ("next_number" : Str) (sp_Reader_next_number K) [] E0 (tVar 0) tNil) (gName 1))
            (tSeq (tAsg (tMeth (He.ga K ("Reader" : Str)) ("next_number" : Str) (sp_Reader_next_number K) [] E0 (tVar 0) tNil) (gName 2))
            (tSeq (tIfS (tTest (tOp rGt (tVar 2) (tC (.int 1)))) (tNever) (tNext))
            (tRet (tTup (tCons (tVar 1) (tCons (tOp rEq (tVar 2) (tC (.int 1))) (tNil)))))))

abbrev n_Reader_next_table : List Str := ["self", "many", "_"]
abbrev t_Reader_next_table (K : PySem.W.Frag) : TS :=
    tSeq (tAsg (tMeth (He.ga K ("Reader" : Str)) ("next_number" : Str) (sp_Reader_next_number K) [] E0 (tVar 0) tNil) (gName 1))
            (tRet (tCB (rTupleOf K) (tCons (tLc (iRng1 (tCons (tVar 1) (tNil))) (gName 2) (tYes) (tMeth (He.ga K ("Reader" : Str)) ("next_cell" : Str) (sp_Reader_next_cell K) [] E0 (tVar 0) tNil) [2]) (tNil))))

abbrev n_Reader_next_instruction : List Str := ["self", "number", "name", "arguments", "_"]
abbrev t_Reader_next_instruction (K : PySem.W.Frag) : TS :=
    tSeq (tAsg (tMeth (He.ga K ("Reader" : Str)) ("next_number" : Str) (sp_Reader_next_number K) [] E0 (tVar 0) tNil) (gName 1))
            (tSeq (tIfS (tTest (tOp rGe (tVar 1) (tCB (rLen K) (tCons (tC (.ref (He.ga K ("OPERATIONS" : Str)))) (tNil))))) (tNever) (tNext))
            (tSeq (tAsg (tOp (rIxT K) (tC (.ref (He.ga K ("OPERATIONS" : Str)))) (tVar 1)) (gName 2))
            (tSeq (tAsg (tLc (iRng1 (tCons (tCall (sp_argument_count K) [] E0 (tCons (tVar 2) (tNil))) (tNil))) (gName 4) (tYes) (tMeth (He.ga K ("Reader" : Str)) ("next_number" : Str) (sp_Reader_next_number K) [] E0 (tVar 0) tNil) [4]) (gName 3))
            (tRet (tCB (rTupleOf K) (tCons (tOp rCat (tLst (tCons (tVar 2) (tNil))) (tVar 3)) (tNil)))))))

abbrev n_Reader_next_segment : List Str := ["self", "table", "many", "_"]
abbrev t_Reader_next_segment (K : PySem.W.Frag) : TS :=
    tSeq (tAsg (tMeth (He.ga K ("Reader" : Str)) ("next_number" : Str) (sp_Reader_next_number K) [] E0 (tVar 0) tNil) (gName 1))
            (tSeq (tAsg (tMeth (He.ga K ("Reader" : Str)) ("next_number" : Str) (sp_Reader_next_number K) [] E0 (tVar 0) tNil) (gName 2))
            (tRet (tTup (tCons (tVar 1) (tCons (tCB (rTupleOf K) (tCons (tLc (iRng1 (tCons (tVar 2) (tNil))) (gName 3) (tYes) (tMeth (He.ga K ("Reader" : Str)) ("next_instruction" : Str) (sp_Reader_next_instruction K) [] E0 (tVar 0) tNil) [3]) (tNil))) (tNil))))))

theorem lc_rd {σ : L2.St} {g : TG} {tt : TT} {te : TE} {ws : List Nat} (hi : ∀ x, imm (dat x) = true) (xs : List α) {n : Nat} (hn : n = xs.length) (hz : n < 10000000) {pre post : List Int} (hr : Rdr K H r dx d (pre.length : Int) ((bs.length : Int) - 1)) (hd : H d = some (.lst (bs.map V.int)))
    (hb : bs = pre ++ xs.flatMap en ++ post) (hp : post ≠ [])
    (ht : ∀ (i : Nat) x pre' post' H' (Pe : VK) (Pn : Hp → Prop), x ∈ xs → bs = pre' ++ en x ++ post' → post' ≠ [] → Rdr K H' r dx d (pre'.length : Int) ((bs.length : Int) - 1) → H' d = some (.lst (bs.map V.int)) →
      (∀ v H4, Mu r H' H4 → Rdr K H4 r dx d ((pre' ++ en x).length : Int) ((bs.length : Int) - 1) → Dp K H4 v (dat x) → Pe v H4) → g (.int (i : Int)) (wipe σ ws) H' fun σ2 H2 => wipe σ2 ws = wipe σ ws ∧ tt σ2 H2 fun b H3 => if b = true then te σ2 H3 Pe else Pn H3)
    (k : ∀ D us H2, H D = none → Mu r H H2 → H2 D = some (.lst us) → Rdr K H2 r dx d ((pre ++ xs.flatMap en).length : Int) ((bs.length : Int) - 1) → H2 d = some (.lst (bs.map V.int)) → DpAll K H2 us (xs.map dat) → Q (.ref D) H2) : LC (Itr 0 n) g tt te ws σ Q H := by
  have hdr : d ≠ r := ne_of hd hr (by intro z; cases z)
  refine lcr_inv (fun i acc H' => Mu r H H' ∧ Rdr K H' r dx d ((pre ++ (xs.take i).flatMap en).length : Int) ((bs.length : Int) - 1) ∧ H' d = some (.lst (bs.map V.int)) ∧ DpAll K H' acc ((xs.take i).map dat)) (fun D H1 hD hS h1 => ⟨Same.mu hS, by simpa using hS _ _ hr, hS _ _ hd, .nil⟩) ?_ ?_
  · rintro i acc D H' hlt hD hA hl ⟨hM, hr', hd', hu⟩
    have hix : i < xs.length := by omega
    have e1 : xs.take (i + 1) = xs.take i ++ [xs[i]] := by rw [List.take_add_one, List.getElem?_eq_getElem hix]; rfl
    have hb' : bs = pre ++ (xs.take i).flatMap en ++ en xs[i] ++ ((xs.drop (i + 1)).flatMap en ++ post) := by
      have e2 : xs = xs.take i ++ xs[i] :: xs.drop (i + 1) := by rw [List.getElem_cons_drop, List.take_append_drop]
      have e3 : xs.flatMap en = (xs.take i ++ xs[i] :: xs.drop (i + 1)).flatMap en := congrArg (List.flatMap en) e2
      rw [hb, e3]
      simp only [List.flatMap_append, List.flatMap_cons, List.append_assoc]
    refine ht i xs[i] _ _ H' _ _ (List.getElem_mem hix) hb' (by simp [hp]) hr' hd' fun v H4 hM4 hr4 hv => ?_
    have hDr : D ≠ r := Ne.symm (ne_of_none hr hD)
    have hDd : D ≠ d := Ne.symm (ne_of_none hd hD)
    refine c_endE (hM4.keep _ _ hDr hA) hl (by omega) fun H5 hM5 h5 => ?_
    refine ⟨Mu.mut (hM.trans hM4) hM5 hD, ?_, hM5.keep _ _ (Ne.symm hDd) (hM4.keep _ _ hdr hd'), ?_⟩
    · rw [e1, List.flatMap_append, List.flatMap_singleton, ← List.append_assoc]
      exact hM5.keep _ _ (Ne.symm hDr) hr4
    · rw [e1, List.map_append]
      have m4 : Mut (H4 D) := mut_l (hM4.keep _ _ hDr hA)
      refine DpAll.append (DpAll.mu hM5 m4 (immAll_map hi _) (DpAll.mu hM4 (mut_i hr') (immAll_map hi _) hu)) (.cons (Dp.mu hM5 m4 (hi _) hv) .nil)
  · rintro acc D H' hD hA hl ⟨hM, hr', hd', hu⟩
    rw [hn, List.take_length] at hr' hu
    exact k D acc H' hD hM hA hr' hd' hu
theorem rd_Reader_next_numbers (C : CF K) (h : sp_Reader_next_numbers K vs H Q E) : t_Reader_next_numbers K { nx := fun _ H' => Q .non H', rt := Q } (start n_Reader_next_numbers vs) H := by
  obtain ⟨_, rfl, r, dx, d, bs, pre, x, post, rfl, ⟨ok1, ok2⟩, hr, hd, hb, hp, k⟩ := h
  have hne : d ≠ r := ne_of hd hr (by intro z; cases z)
  show t_Reader_next_numbers K _ [some (.ref r), none, none] H
  k_places
  refine u_rd (bs := bs) (dx := dx) (d := d) pre (x.length : Int) (x.flatMap enc ++ post) ⟨by omega, by omega⟩ hr hd (by rw [hb]; simp [encP]) (by simp [hp]) fun v H1 hM1 hr1 hv => ?_
  obtain rfl := Dp.int_inv hv
  k_places
  refine lc_rd (en := enc) (dat := PyData.int) (fun _ => rfl) x (n := (x.length : Int).toNat) (by simp) (by simp; omega) hr1 (by k_subL) (by rw [hb]; simp [encP]) hp ?_ ?_
  · intro i y pre' post' H' Pe Pn hy hb' hp' hr' hd' kk
    k_places
    exact u_rd (bs := bs) (dx := dx) (d := d) pre' y post' (ok2 y hy) hr' hd' hb' hp' kk
  · intro D us H2 hD hM2 h2 hr2 hd2 hu
    k_places
    rename_i p H3 hp3 hS3 h3
    exact k _ _ (by k_allIn) (rdr_is (hS3 _ _ hr2) (by simp [encP] <;> omega)) (.tup (SqT.of h3) (DpAll.same hS3 hu))
theorem rd_Reader_next_cell (C : CF K) (h : sp_Reader_next_cell K vs H Q E) : t_Reader_next_cell K { nx := fun _ H' => Q .non H', rt := Q } (start n_Reader_next_cell vs) H := by
  obtain ⟨_, rfl, r, dx, d, bs, pre, x, post, rfl, hok, hr, hd, hb, hp, k⟩ := h
  have hne : d ≠ r := ne_of hd hr (by intro z; cases z)
  show t_Reader_next_cell K _ [some (.ref r), none, none] H
  k_places
  refine u_rd (bs := bs) (dx := dx) (d := d) pre x.1 (enc (if x.2 then 1 else 0) ++ post) hok hr hd (by rw [hb]; simp [encC]) (by simp [hp]) fun v H1 hM1 hr1 hv => ?_
  obtain rfl := Dp.int_inv hv
  k_places
  refine u_rd (bs := bs) (dx := dx) (d := d) (pre ++ enc x.1) (if x.2 then 1 else 0) post (by split <;> constructor <;> omega) hr1 (by k_subL) (by rw [hb]; simp [encC]) hp fun v H2 hM2 hr2 hv => ?_
  obtain rfl := Dp.int_inv hv
  k_places
  refine c_ite (fun h => ?_) (fun h => ?_)
  · exfalso
    split at h <;> omega
  k_places
  rename_i p H3 hp3 hS3 h3
  refine k _ _ (by k_allIn) (rdr_is (hS3 _ _ hr2) (by simp [encC] <;> omega)) (.tup (SqT.of h3) (.cons (.int _) (.cons ?_ .nil)))
  cases x.2
  · exact .bl false
  · exact .bl true
theorem rd_Reader_next_table (C : CF K) (h : sp_Reader_next_table K vs H Q E) : t_Reader_next_table K { nx := fun _ H' => Q .non H', rt := Q } (start n_Reader_next_table vs) H := by
  obtain ⟨_, rfl, r, dx, d, bs, pre, x, post, rfl, ⟨ok1, ok2⟩, hr, hd, hb, hp, k⟩ := h
  have hne : d ≠ r := ne_of hd hr (by intro z; cases z)
  show t_Reader_next_table K _ [some (.ref r), none, none] H
  k_places
  refine u_rd (bs := bs) (dx := dx) (d := d) pre (x.length : Int) (x.flatMap encC ++ post) ⟨by omega, by omega⟩ hr hd (by rw [hb]; simp [encT]) (by simp [hp]) fun v H1 hM1 hr1 hv => ?_
  obtain rfl := Dp.int_inv hv
  k_places
  refine lc_rd (en := encC) (dat := cellD) (fun _ => rfl) x (n := (x.length : Int).toNat) (by simp) (by simp; omega) hr1 (by k_subL) (by rw [hb]; simp [encT]) hp ?_ ?_
  · intro i y pre' post' H' Pe Pn hy hb' hp' hr' hd' kk
    k_places
    exact u_rd (bs := bs) (dx := dx) (d := d) pre' y post' (ok2 y hy) hr' hd' hb' hp' kk
  · intro D us H2 hD hM2 h2 hr2 hd2 hu
    k_places
    rename_i p H3 hp3 hS3 h3
    exact k _ _ (by k_allIn) (rdr_is (hS3 _ _ hr2) (by simp [encT] <;> omega)) (.tup (SqT.of h3) (DpAll.same hS3 hu))
theorem ops_at {s : Str} (h : s ∈ ops) : ops[ops.idxOf s]? = some s := by
  have h1 := List.idxOf_lt_length_iff.mpr h
  rw [List.getElem?_eq_getElem h1, List.getElem_idxOf h1]
theorem rd_Reader_next_instruction (C : CF K) (h : sp_Reader_next_instruction K vs H Q E) : t_Reader_next_instruction K { nx := fun _ H' => Q .non H', rt := Q } (start n_Reader_next_instruction vs) H := by
  obtain ⟨_, rfl, r, dx, d, bs, pre, x, post, rfl, hok, hr, hd, hb, hp, k⟩ := h
  have hne : d ≠ r := ne_of hd hr (by intro z; cases z)
  have hmem := okI_mem hok
  have hlt := List.idxOf_lt_length_iff.mpr hmem
  have h25 : ops.length = 25 := rfl
  have hl2 := okI_len hok
  show t_Reader_next_instruction K _ [some (.ref r), none, none, none, none] H
  k_places
  refine u_rd (bs := bs) (dx := dx) (d := d) pre (ops.idxOf x.1 : Int) (x.2.flatMap enc ++ post) ⟨by omega, by omega⟩ hr hd (by rw [hb]; simp [encI]) (by simp [hp]) fun v H1 hM1 hr1 hv => ?_
  obtain rfl := Dp.int_inv hv
  k_places
  refine c_ite (fun h => ?_) (fun h => ?_)
  · exfalso
    simp at h
    omega
  k_places
  refine c_ixT (v := .str x.1) (xs := ops.map V.str) (CF.tu_OPERATIONS C _) (atI_nat (by rw [List.getElem?_map, ops_at hmem]; rfl)) ?_
  k_places
  refine u_argc (n := x.2.length) hok.1 ?_
  k_places
  refine lc_rd (en := enc) (dat := PyData.int) (fun _ => rfl) x.2 (n := (x.2.length : Int).toNat) (by simp) (by simp; omega) hr1 (by k_subL) (by rw [hb]; simp [encI]) hp ?_ ?_
  · intro i y pre' post' H' Pe Pn hy hb' hp' hr' hd' kk
    k_places
    exact u_rd (bs := bs) (dx := dx) (d := d) pre' y post' (hok.2 y hy) hr' hd' hb' hp' kk
  · intro D us H2 hD hM2 h2 hr2 hd2 hu
    obtain rfl := DpAll.int_inv hu
    k_places
    exact k _ _ (by k_allIn) (rdr_is (by k_subL) (by simp [encI] <;> omega)) (.tup (by k_subL) (.cons (.str _) (DpAll.ints _)))
theorem rd_Reader_next_segment (C : CF K) (h : sp_Reader_next_segment K vs H Q E) : t_Reader_next_segment K { nx := fun _ H' => Q .non H', rt := Q } (start n_Reader_next_segment vs) H := by
  obtain ⟨_, rfl, r, dx, d, bs, pre, x, post, rfl, ⟨ok0, ok1, ok2⟩, hr, hd, hb, hp, k⟩ := h
  have hne : d ≠ r := ne_of hd hr (by intro z; cases z)
  show t_Reader_next_segment K _ [some (.ref r), none, none, none] H
  k_places
  refine u_rd (bs := bs) (dx := dx) (d := d) pre x.1 (enc x.2.length ++ x.2.flatMap encI ++ post) ok0 hr hd (by rw [hb]; simp [encS]) (by simp [hp]) fun v H1 hM1 hr1 hv => ?_
  obtain rfl := Dp.int_inv hv
  k_places
  refine u_rd (bs := bs) (dx := dx) (d := d) (pre ++ enc x.1) (x.2.length : Int) (x.2.flatMap encI ++ post) ⟨by omega, by omega⟩ hr1 (by k_subL) (by rw [hb]; simp [encS]) (by simp [hp]) fun v H2 hM2 hr2 hv => ?_
  obtain rfl := Dp.int_inv hv
  k_places
  refine lc_rd (en := encI) (dat := insD) imm_i x.2 (n := (x.2.length : Int).toNat) (by simp) (by simp; omega) hr2 (by k_subL) (by rw [hb]; simp [encS]) hp ?_ ?_
  · intro i y pre' post' H' Pe Pn hy hb' hp' hr' hd' kk
    k_places
    exact u_rd (bs := bs) (dx := dx) (d := d) pre' y post' (ok2 y hy) hr' hd' hb' hp' kk
  · intro D us H3 hD hM3 h3 hr3 hd3 hu
    k_places
    rename_i p H4 hp4 hS4 h4 q H5 hp5 hS5 h5
    exact k _ _ (by k_allIn) (rdr_is (by k_subL) (by simp [encS] <;> omega)) (.tup (SqT.of h5) (.cons (.int _) (.cons (.tup (by k_subL) (DpAll.same (hS4.trans hS5) hu)) .nil)))
end
/-! ### the whole -/
theorem encC_num (c : Int × Bool) : (numC c).flatMap enc = encC c := by simp [numC, encC]
theorem fm_fm {α : Type} {f : α → List Int} {e : α → List Int} (h : ∀ y, (f y).flatMap enc = e y) : ∀ ys : List α, (ys.flatMap f).flatMap enc = ys.flatMap e
  | [] => rfl
  | y :: ys => by rw [List.flatMap_cons, List.flatMap_append, h, fm_fm h ys, List.flatMap_cons]
theorem encT_num (t : Tbl) : (numT t).flatMap enc = encT t := by rw [numT, List.flatMap_append, fm_fm encC_num]; simp [encT]
theorem encI_num (i : Ins) : (numI i).flatMap enc = encI i := by simp [numI, encI]
theorem encS_num (x : Seg) : (numS x).flatMap enc = encS x := by rw [numS, List.flatMap_append, fm_fm encI_num]; simp [encS]
theorem encP_num (x : List Int) : (numP x).flatMap enc = encP x := by simp [numP, encP]
theorem body_eq (m : Img) : bodyM m = [82] ++ enc m.1.length ++ m.1.flatMap encT ++ enc m.2.1.length ++ m.2.1.flatMap encS ++ enc m.2.2.length ++ m.2.2.flatMap encP := by
  rw [bodyM, numM]
  simp only [List.flatMap_append, fm_fm encT_num, fm_fm encS_num, fm_fm encP_num, List.flatMap_singleton, List.append_assoc]
def sp_unpack_image (K : PySem.W.Frag) : Sp := Sp1 fun a H Q _ => ∃ (d : Addr) (m : Img), a = .ref d ∧ okM m ∧ H d = some (.lst ((bytesM m).map V.int)) ∧ ∀ v H', Same H H' → Dp K H' v (imgD m) → Q v H'
theorem cutV_init {xs : List V} {y : V} : cutV (xs ++ [y]) none (some (-1)) = xs := by
  have e : HT.sIx (xs ++ [y]).length (xs ++ [y]).length (some (-1)) = xs.length := by
    show (if (-1 : Int) < 0 then (-1 + ((xs ++ [y]).length : Int)).toNat else min (-1 : Int).toNat (xs ++ [y]).length) = xs.length
    rw [if_pos (by decide)]
    simp
    omega
  unfold cutV
  rw [e]
  show ((xs ++ [y]).drop 0).take (xs.length - 0) = xs
  simp
theorem atI_last {xs : List V} {y : V} : atI (xs ++ [y]) (-1) = some y := by
  unfold atI ixN
  simp only [List.length_append, List.length_singleton, Int.natCast_add, Int.natCast_one]
  rw [if_neg (by decide), if_pos (by omega)]
  have e : (-1 + ((xs.length : Int) + 1)).toNat = xs.length := by omega
  simp [e]
abbrev n_unpack_image : List Str := ["data", "reader", "tables", "segments", "plan", "_"]
abbrev t_unpack_image (K : PySem.W.Frag) : TS :=
    tSeq (tIfS (tTest (tOp rLt (tCB (rLen K) (tCons (tVar 0) (tNil))) (tC (.int 2)))) (tNever) (tNext))
            (tSeq (tIfS (tTest (tOp rNe (tOp (rIxL K) (tVar 0) (tC (.int 0))) (tC (.int 82)))) (tNever) (tNext))
            (tSeq (tIfS (tTest (tOp rNe (tOp rModN (tCB (rSum K) (tCons (tSl (rSlL K) (tVar 0) (tNoPart) (tPart (tUn rNegI (tC (.int 1))))) (tNil))) (tC (.int 256))) (tOp (rIxL K) (tVar 0) (tUn rNegI (tC (.int 1)))))) (tNever) (tNext))
            (tSeq (tAsg (tMake (He.ga K ("Reader" : Str)) (sp_Readeru_initu K) [] E0 (tCons (tVar 0) (tNil))) (gName 1))
            (tSeq (tAsg (tCB (rTupleOf K) (tCons (tLc (iRng1 (tCons (tMeth (He.ga K ("Reader" : Str)) ("next_number" : Str) (sp_Reader_next_number K) [] E0 (tVar 1) tNil) (tNil))) (gName 5) (tYes) (tMeth (He.ga K ("Reader" : Str)) ("next_table" : Str) (sp_Reader_next_table K) [] E0 (tVar 1) tNil) [5]) (tNil))) (gName 2))
            (tSeq (tAsg (tCB (rTupleOf K) (tCons (tLc (iRng1 (tCons (tMeth (He.ga K ("Reader" : Str)) ("next_number" : Str) (sp_Reader_next_number K) [] E0 (tVar 1) tNil) (tNil))) (gName 5) (tYes) (tMeth (He.ga K ("Reader" : Str)) ("next_segment" : Str) (sp_Reader_next_segment K) [] E0 (tVar 1) tNil) [5]) (tNil))) (gName 3))
            (tSeq (tAsg (tCB (rTupleOf K) (tCons (tLc (iRng1 (tCons (tMeth (He.ga K ("Reader" : Str)) ("next_number" : Str) (sp_Reader_next_number K) [] E0 (tVar 1) tNil) (tNil))) (gName 5) (tYes) (tMeth (He.ga K ("Reader" : Str)) ("next_numbers" : Str) (sp_Reader_next_numbers K) [] E0 (tVar 1) tNil) [5]) (tNil))) (gName 4))
            (tSeq (tIfS (tTest (tOp rLt (tFld K (tVar 1) ("place" : Str)) (tFld K (tVar 1) ("end" : Str)))) (tNever) (tNext))
            (tRet (tTup (tCons (tVar 2) (tCons (tVar 3) (tCons (tVar 4) (tNil)))))))))))))

section
variable {K : PySem.W.Frag} {vs : List V} {H : Hp} {Q : VK} {E : XK}
theorem u_unpack {d : Addr} {m : Img} (hok : okM m) (h : H d = some (.lst ((bytesM m).map V.int))) (k : ∀ v H', Same H H' → Dp K H' v (imgD m) → Q v H') : sp_unpack_image K [.ref d] H Q E := ⟨_, rfl, d, m, rfl, hok, h, k⟩
theorem rd_unpack_image (C : CF K) (h : sp_unpack_image K vs H Q E) : t_unpack_image K { nx := fun _ H' => Q .non H', rt := Q } (start n_unpack_image vs) H := by
  obtain ⟨_, rfl, d, m, rfl, hok, hd, k⟩ := h
  obtain ⟨⟨a1, a2⟩, ⟨b1, b2⟩, c1, c2⟩ := id hok
  have a0 : atI ((bytesM m).map V.int) 0 = some (.int 82) := atI_nat (j := 0) rfl
  have ae : (bytesM m).map V.int = (bodyM m).map V.int ++ [.int ((bodyM m).sum.fmod 256)] := by rw [bytesM, List.map_append]; rfl
  have a9 : atI ((bytesM m).map V.int) (-1) = some (.int ((bodyM m).sum.fmod 256)) := by rw [ae]; exact atI_last
  have hlen : (bytesM m).length = (bodyM m).length + 1 := by rw [bytesM, List.length_append]; rfl
  have hl1 : 1 ≤ (bodyM m).length := by rw [bodyM, List.length_append]; simp
  have hb := body_eq m
  show t_unpack_image K _ [some (.ref d), none, none, none, none, none] H
  k_places
  refine c_ite (fun h => ?_) (fun h => ?_)
  · exfalso
    rw [List.length_map] at h
    omega
  k_places
  refine c_slL (SqL.of hd) fun p H1 hp1 hS1 h1 => ?_
  rw [ae, cutV_init] at h1
  k_places
  rename_i x dx H2 hx hS2 h2
  have hd2 : H2 d = some (.lst ((bytesM m).map V.int)) := by k_subL
  have hne : d ≠ x := ne_of hd2 h2 (by intro z; cases z)
  refine u_init h2 hd2 fun H3 hM3 hr3 => ?_
  have hd3 := hM3.keep _ _ hne hd2
  have hS3 : Same H H3 := by k_offL
  have okn : ∀ n : Nat, n ≤ 300 → okN n := fun n h => ⟨by omega, by omega⟩
  k_places
  refine u_rd (bs := bytesM m) (dx := dx) (d := d) [82] (m.1.length : Int) (m.1.flatMap encT ++ enc m.2.1.length ++ m.2.1.flatMap encS ++ enc m.2.2.length ++ m.2.2.flatMap encP ++ [(bodyM m).sum.fmod 256]) (okn _ a1) hr3 hd3 (by rw [bytesM, hb]; simp) (by simp) fun v H4 hM4 hr4 hv => ?_
  obtain rfl := Dp.int_inv hv
  have hd4 := hM4.keep _ _ hne hd3
  have hS4 : Same H H4 := Same.mut hS3 hM4 (by k_memK)
  k_places
  refine lc_rd (en := encT) (dat := tabD) imm_t m.1 (n := (m.1.length : Int).toNat) (by simp) (by simp; omega) hr4 hd4 (post := enc m.2.1.length ++ m.2.1.flatMap encS ++ enc m.2.2.length ++ m.2.2.flatMap encP ++ [(bodyM m).sum.fmod 256]) (by rw [bytesM, hb]; simp) (by simp) ?_ ?_
  · intro i y pre' post' H' Pe Pn hy hb' hp' hr' hd' kk
    k_places
    exact u_rd (bs := bytesM m) (dx := dx) (d := d) pre' y post' (a2 y hy) hr' hd' hb' hp' kk
  intro D5 us5 H5 hD5 hM5 h5 hr5 hd5 hu5
  have hS5 : Same H H5 := Same.mut hS4 hM5 (by k_memK)
  k_places
  rename_i t6 H6 ht6 hS6 h6
  refine u_rd (bs := bytesM m) (dx := dx) (d := d) ([82] ++ enc m.1.length ++ m.1.flatMap encT) (m.2.1.length : Int) (m.2.1.flatMap encS ++ enc m.2.2.length ++ m.2.2.flatMap encP ++ [(bodyM m).sum.fmod 256]) (okn _ b1) (hS6 _ _ hr5) (hS6 _ _ hd5) (by rw [bytesM, hb]; simp) (by simp) fun v H7 hM7 hr7 hv => ?_
  obtain rfl := Dp.int_inv hv
  have hd7 := hM7.keep _ _ hne (hS6 _ _ hd5)
  have hS7 : Same H H7 := Same.mut (hS5.trans hS6) hM7 (by k_memK)
  k_places
  refine lc_rd (en := encS) (dat := segD) imm_s m.2.1 (n := (m.2.1.length : Int).toNat) (by simp) (by simp; omega) hr7 hd7 (post := enc m.2.2.length ++ m.2.2.flatMap encP ++ [(bodyM m).sum.fmod 256]) (by rw [bytesM, hb]; simp) (by simp) ?_ ?_
  · intro i y pre' post' H' Pe Pn hy hb' hp' hr' hd' kk
    k_places
    exact u_rd (bs := bytesM m) (dx := dx) (d := d) pre' y post' (b2 y hy) hr' hd' hb' hp' kk
  intro D8 us8 H8 hD8 hM8 h8 hr8 hd8 hu8
  have hS8 : Same H H8 := Same.mut hS7 hM8 (by k_memK)
  k_places
  rename_i t9 H9 ht9 hS9 h9
  refine u_rd (bs := bytesM m) (dx := dx) (d := d) ([82] ++ enc m.1.length ++ m.1.flatMap encT ++ enc m.2.1.length ++ m.2.1.flatMap encS) (m.2.2.length : Int) (m.2.2.flatMap encP ++ [(bodyM m).sum.fmod 256]) (okn _ c1) (hS9 _ _ hr8) (hS9 _ _ hd8) (by rw [bytesM, hb]; simp) (by simp) fun v HA hMA hrA hv => ?_
  obtain rfl := Dp.int_inv hv
  have hdA := hMA.keep _ _ hne (hS9 _ _ hd8)
  have hSA : Same H HA := Same.mut (hS8.trans hS9) hMA (by k_memK)
  k_places
  refine lc_rd (en := encP) (dat := planD) imm_p m.2.2 (n := (m.2.2.length : Int).toNat) (by simp) (by simp; omega) hrA hdA (post := [(bodyM m).sum.fmod 256]) (by rw [bytesM, hb]) (by simp) ?_ ?_
  · intro i y pre' post' H' Pe Pn hy hb' hp' hr' hd' kk
    k_places
    exact u_rd (bs := bytesM m) (dx := dx) (d := d) pre' y post' (c2 y hy) hr' hd' hb' hp' kk
  intro DB usB HB hDB hMB hhB hrB hdB huB
  have hSB : Same H HB := Same.mut hSA hMB (by k_memK)
  k_places
  rename_i tC HC htC hSC hC
  refine c_ite (fun h => ?_) (fun h => ?_)
  · exfalso
    rw [hlen, hb] at h
    first | omega | (simp at h; done) | (simp at h; omega)
  k_places
  rename_i tD HD htD hSD hDD
  have m5 := immAll_map imm_t m.1
  have m8 := immAll_map imm_s m.2.1
  have q6 : Dp K H6 (.ref t6) (.tuple (m.1.map tabD)) := .tup (SqT.of h6) (DpAll.same hS6 hu5)
  have q8 : Dp K H8 (.ref t6) (.tuple (m.1.map tabD)) := Dp.mu hM8 (mut_i hr7) (by simpa [imm] using m5) (Dp.mu hM7 (mut_i (hS6 _ _ hr5)) (by simpa [imm] using m5) q6)
  have q9 : Dp K H9 (.ref t9) (.tuple (m.2.1.map segD)) := .tup (SqT.of h9) (DpAll.same hS9 hu8)
  have qB : ∀ v D, imm D = true → Dp K H9 v D → Dp K HD v D := fun v D hi q => Dp.same (hSC.trans hSD) (Dp.mu hMB (mut_i hrA) hi (Dp.mu hMA (mut_i (hS9 _ _ hr8)) hi q))
  exact k _ _ ((hSB.trans hSC).trans hSD) (.tup (SqT.of hDD) (.cons (qB _ _ (by simpa [imm] using m5) (Dp.same hS9 q8)) (.cons (qB _ _ (by simpa [imm] using m8) q9) (.cons (.tup (SqT.of (hSD _ _ hC)) (DpAll.same (hSC.trans hSD) huB)) .nil))))
end
/-! ### the law's images -/
def ThK (k : Int) (d : PyData) : Prop := (k = 1 ∧ ∃ c, okC c ∧ d = cellD c) ∨ (k = 3 ∧ ∃ i, okI i ∧ d = insD i) ∨ (k = 5 ∧ ∃ n, okN n ∧ d = .int n)
theorem ThK.imm {k : Int} {d : PyData} (h : ThK k d) : imm d = true := by
  rcases h with ⟨_, c, _, rfl⟩ | ⟨_, i, _, rfl⟩ | ⟨_, n, _, rfl⟩
  · rfl
  · exact imm_i i
  · rfl
theorem immAll_of : ∀ {ds : List PyData}, (∀ d ∈ ds, imm d = true) → immAll ds = true
  | [], _ => rfl
  | d :: ds, h => by
    rw [immAll, h d (List.mem_cons_self ..), immAll_of fun e he => h e (List.mem_cons_of_mem _ he)]
    rfl
def RowK (k : Int) (ds : List PyData) : Prop := ds.length ≤ 300 ∧ ∀ d ∈ ds, ThK k d
theorem RowK.imm {k : Int} {ds : List PyData} (h : RowK k ds) : R.imm (.tuple ds) = true := by
  show immAll ds = true
  exact immAll_of fun d hd => (h.2 d hd).imm
def Rel (p : Addr) (H H' : Hp) : Prop := Mu p H H' ∧ BagAt H' p
def sp_lw_size (_K : PySem.W.Frag) : Sp := Sp1 fun a H Q _ => ∃ p, a = .ref p ∧ BagAt H p ∧ ∀ n H', okN n → Mu p H H' → BagAt H' p → Q (.int n) H'
def sp_lw_thing (K : PySem.W.Frag) : Sp := Sp2 fun a b H Q _ => ∃ (p : Addr) (k : Int), a = .ref p ∧ b = .int k ∧ BagAt H p ∧ (k = 1 ∨ k = 3 ∨ k = 5) ∧ ∀ v d H', ThK k d → Mu p H H' → BagAt H' p → Dp K H' v d → Q v H'
def sp_lw_row (K : PySem.W.Frag) : Sp := Sp4 fun a b c e H Q _ => ∃ (p : Addr) (k l m : Int), a = .ref p ∧ b = .int k ∧ c = .int l ∧ e = .int m ∧ BagAt H p ∧ (k = 1 ∨ k = 3 ∨ k = 5) ∧ 0 ≤ m ∧ m ≤ 6 ∧
  ∀ v ds H', RowK k ds → Mu p H H' → BagAt H' p → Dp K H' v (.tuple ds) → Q v H'
def sp_lw_rows (K : PySem.W.Frag) : Sp := Sp3 fun a b c H Q _ => ∃ (p : Addr) (k l : Int), a = .ref p ∧ b = .int k ∧ c = .int l ∧ BagAt H p ∧ (k = 0 ∨ k = 2 ∨ k = 4) ∧
  ∀ q us (dss : List (List PyData)) H', H q = none → H' q = some (.lst us) → dss.length ≤ 300 → (∀ ds ∈ dss, RowK (k + 1) ds) → DpAll K H' us (dss.map PyData.tuple) → Mu p H H' → BagAt H' p → Q (.ref q) H'
abbrev n_lw_size : List Str := ["bag", "way"]
abbrev t_lw_size (K : PySem.W.Frag) : TS :=
    tSeq (tAsg (tCall (sp_lw_take K) [] E0 (tCons (tVar 0) (tCons (tC (.int 8)) (tNil)))) (gName 1))
            (tSeq (tIfS (tTest (tOp rLt (tVar 1) (tC (.int 3)))) (tRet (tCall (sp_lw_take K) [] E0 (tCons (tVar 0) (tCons (tC (.int 4)) (tNil))))) (tNext))
            (tSeq (tIfS (tTest (tOp rEq (tVar 1) (tC (.int 3)))) (tRet (tCall (sp_lw_pick K) [] E0 (tCons (tVar 0) (tCons (tLst (tCons (tC (.int 127)) (tCons (tC (.int 128)) (tCons (tC (.int 129)) (tCons (tC (.int 255)) (tCons (tC (.int 256)) (tNil))))))) (tNil))))) (tNext))
            (tSeq (tIfS (tTest (tOp rEq (tVar 1) (tC (.int 4)))) (tRet (tCall (sp_lw_pick K) [] E0 (tCons (tVar 0) (tCons (tLst (tCons (tC (.int 16383)) (tCons (tC (.int 16384)) (tCons (tC (.int 2097151)) (tCons (tC (.int 2097150)) (tCons (tC (.int 32768)) (tNil))))))) (tNil))))) (tNext))
            (tRet (tCall (sp_lw_take K) [] E0 (tCons (tVar 0) (tCons (tOp (rIxL K) (tLst (tCons (tC (.int 128)) (tCons (tC (.int 16384)) (tCons (tC (.int 2097152)) (tNil))))) (tOp rSubI (tVar 1) (tC (.int 5)))) (tNil))))))))

abbrev n_lw_thing : List Str := ["bag", "kind", "name", "names"]
abbrev t_lw_thing (K : PySem.W.Frag) : TS :=
    tSeq (tIfS (tTest (tOp rEq (tVar 1) (tC (.int 1)))) (tRet (tTup (tCons (tCall (sp_lw_size K) [] E0 (tCons (tVar 0) (tNil))) (tCons (tOp rEq (tCall (sp_lw_take K) [] E0 (tCons (tVar 0) (tCons (tC (.int 2)) (tNil)))) (tC (.int 0))) (tNil))))) (tNext))
            (tSeq (tIfS (tTest (tOp rNe (tVar 1) (tC (.int 3)))) (tRet (tCall (sp_lw_size K) [] E0 (tCons (tVar 0) (tNil)))) (tNext))
            (tSeq (tAsg (tCall (sp_lw_pick K) [] E0 (tCons (tVar 0) (tCons (tLst (tCons (tC (.str "num")) (tCons (tC (.str "get")) (tCons (tC (.str "put")) (tCons (tC (.str "pick")) (tCons (tC (.str "hop")) (tCons (tC (.str "hopno")) (tCons (tC (.str "beat")) (tCons (tC (.str "call")) (tCons (tC (.str "call")) (tCons (tC (.str "")) (tCons (tC (.str "")) (tNil))))))))))))) (tNil)))) (gName 2))
            (tSeq (tIfS (tTest (tOp rEq (tVar 2) (tC (.str "call")))) (tRet (tTup (tCons (tVar 2) (tCons (tCall (sp_lw_size K) [] E0 (tCons (tVar 0) (tNil))) (tCons (tCall (sp_lw_size K) [] E0 (tCons (tVar 0) (tNil))) (tNil)))))) (tNext))
            (tSeq (tIfS (tTest (tOp rNe (tVar 2) (tC (.str "")))) (tRet (tTup (tCons (tVar 2) (tCons (tCall (sp_lw_size K) [] E0 (tCons (tVar 0) (tNil))) (tNil))))) (tNext))
            (tSeq (tAsg (tLst (tCons (tC (.str "pace")) (tCons (tC (.str "dup")) (tCons (tC (.str "drop")) (tCons (tC (.str "bit")) (tCons (tC (.str "not")) (tCons (tC (.str "add")) (tCons (tC (.str "sub")) (tCons (tC (.str "mul")) (tCons (tC (.str "min")) (tCons (tC (.str "max")) (tCons (tC (.str "lt")) (tCons (tC (.str "le")) (tCons (tC (.str "eq")) (tCons (tC (.str "ne")) (tCons (tC (.str "ge")) (tCons (tC (.str "gt")) (tCons (tC (.str "back")) (tNil))))))))))))))))))) (gName 3))
            (tRet (tTup (tCons (tCall (sp_lw_pick K) [] E0 (tCons (tVar 0) (tCons (tVar 3) (tNil)))) (tNil)))))))))

abbrev n_lw_row : List Str := ["bag", "kind", "large", "most", "count", "row", "k"]
abbrev t_lw_row (K : PySem.W.Frag) : TS :=
    tSeq (tAsg (tCall (sp_lw_take K) [] E0 (tCons (tVar 0) (tCons (tOp rAddI (tVar 3) (tC (.int 1))) (tNil)))) (gName 4))
            (Evl.tCut (tIfS (tTest (tOp rEq (tVar 1) (tVar 2))) (tAsg (tCall (sp_lw_pick K) [] E0 (tCons (tVar 0) (tCons (tLst (tCons (tC (.int 127)) (tCons (tC (.int 128)) (tCons (tC (.int 129)) (tCons (tC (.int 300)) (tNil)))))) (tNil)))) (gName 4)) (tNext))
            (tSeq (tAsg (tLst (tNil)) (gName 5))
            (tSeq (tFor (iRng1 (tCons (tVar 4) (tNil))) (gName 6) (tIfS (tTest (tOp rLt (tVar 6) (tC (.int 8)))) (tDrop (tBM K "list" rAppend (tVar 5) (tCons (tCall (sp_lw_thing K) [] E0 (tCons (tVar 0) (tCons (tVar 1) (tNil)))) (tNil)))) (tDrop (tBM K "list" rAppend (tVar 5) (tCons (tOp (rIxL K) (tVar 5) (tOp rModN (tCB rInt1 (tCons (tVar 6) (tNil))) (tC (.int 8)))) (tNil))))))
            (tRet (tCB (rTupleOf K) (tCons (tVar 5) (tNil)))))))

abbrev n_lw_rows : List Str := ["bag", "kind", "large", "count", "rows", "k"]
abbrev t_lw_rows (K : PySem.W.Frag) : TS :=
    tSeq (tAsg (tCall (sp_lw_take K) [] E0 (tCons (tVar 0) (tCons (tC (.int 4)) (tNil)))) (gName 3))
            (Evl.tCut (tIfS (tTest (tOp rEq (tVar 1) (tVar 2))) (tAsg (tCall (sp_lw_pick K) [] E0 (tCons (tVar 0) (tCons (tLst (tCons (tC (.int 127)) (tCons (tC (.int 128)) (tCons (tC (.int 129)) (tCons (tC (.int 300)) (tNil)))))) (tNil)))) (gName 3)) (tNext))
            (tSeq (tAsg (tLst (tNil)) (gName 4))
            (tSeq (tFor (iRng1 (tCons (tVar 3) (tNil))) (gName 5) (tIfS (tTest (tOp rLt (tVar 5) (tC (.int 8)))) (tDrop (tBM K "list" rAppend (tVar 4) (tCons (tCall (sp_lw_row K) [] E0 (tCons (tVar 0) (tCons (tOp rAddI (tVar 1) (tC (.int 1))) (tCons (tVar 2) (tCons (tOp (rIxL K) (tLst (tCons (tC (.int 4)) (tCons (tC (.int 0)) (tCons (tC (.int 6)) (tCons (tC (.int 0)) (tCons (tC (.int 4)) (tNil))))))) (tVar 1)) (tNil)))))) (tNil)))) (tDrop (tBM K "list" rAppend (tVar 4) (tCons (tOp (rIxL K) (tVar 4) (tOp rModN (tCB rInt1 (tCons (tVar 5) (tNil))) (tC (.int 8)))) (tNil))))))
            (tRet (tVar 4)))))

section
variable {K : PySem.W.Frag} {vs : List V} {H : Hp} {Q : VK} {E : XK} {p : Addr}
theorem u_size (hb : BagAt H p) (k : ∀ n H', okN n → Mu p H H' → BagAt H' p → Q (.int n) H') : sp_lw_size K [.ref p] H Q E := ⟨_, rfl, p, rfl, hb, k⟩
theorem u_thing {k : Int} (hb : BagAt H p) (hk : k = 1 ∨ k = 3 ∨ k = 5) (c : ∀ v d H', ThK k d → Mu p H H' → BagAt H' p → Dp K H' v d → Q v H') : sp_lw_thing K [.ref p, .int k] H Q E := ⟨_, _, rfl, p, k, rfl, rfl, hb, hk, c⟩
theorem u_row {k l m : Int} (hb : BagAt H p) (hk : k = 1 ∨ k = 3 ∨ k = 5) (h0 : 0 ≤ m) (h6 : m ≤ 6) (c : ∀ v ds H', RowK k ds → Mu p H H' → BagAt H' p → Dp K H' v (.tuple ds) → Q v H') : sp_lw_row K [.ref p, .int k, .int l, .int m] H Q E :=
  ⟨_, _, _, _, rfl, p, k, l, m, rfl, rfl, rfl, rfl, hb, hk, h0, h6, c⟩
theorem u_rows {k l : Int} (hb : BagAt H p) (hk : k = 0 ∨ k = 2 ∨ k = 4) (c : ∀ q us (dss : List (List PyData)) H', H q = none → H' q = some (.lst us) → dss.length ≤ 300 → (∀ ds ∈ dss, RowK (k + 1) ds) → DpAll K H' us (dss.map PyData.tuple) → Mu p H H' → BagAt H' p → Q (.ref q) H') : sp_lw_rows K [.ref p, .int k, .int l] H Q E :=
  ⟨_, _, _, rfl, p, k, l, rfl, rfl, rfl, hb, hk, c⟩
local macro_rules | `(tactic| k_caughtB) => `(tactic| first | (((with_reducible refine' u_size ?h1 (fun n H' hn hM hB => ?_)); (case h1 => k_subL))) | fail)
theorem rd_lw_size (C : CF K) (h : sp_lw_size K vs H Q E) : t_lw_size K { nx := fun _ H' => Q .non H', rt := Q } (start n_lw_size vs) H := by
  obtain ⟨_, rfl, p, rfl, hb, k⟩ := h
  show t_lw_size K _ [some (.ref p), none] H
  k_places
  rename_i w H1 w0 w8 hM1 hB1
  refine c_ite (fun h => ?_) (fun h => ?_)
  · k_places
    rename_i n H2 n0 n4 hM2 hB2
    exact k n H2 ⟨by omega, by omega⟩ (hM1.trans hM2) hB2
  k_places
  refine c_ite (fun h => ?_) (fun h => ?_)
  · k_places
    rename_i n H3 hn hM3 hB3
    exact k n H3 (by simp at hn; rcases hn with rfl | rfl | rfl | rfl | rfl <;> constructor <;> decide) (by k_allIn) hB3
  k_places
  refine c_ite (fun h => ?_) (fun h => ?_)
  · k_places
    rename_i n H3 hn hM3 hB3
    exact k n H3 (by simp at hn; rcases hn with rfl | rfl | rfl | rfl | rfl <;> constructor <;> decide) (by k_allIn) hB3
  k_places
  rename_i l H2 hl2 hS2 h2
  obtain ⟨n, hn1, hn2, e⟩ : ∃ n : Int, 0 < n ∧ n ≤ 2097152 ∧ atI [V.int 128, .int 16384, .int 2097152] (w - 5) = some (.int n) := by
    obtain rfl | rfl | rfl : w = 5 ∨ w = 6 ∨ w = 7 := by omega
    · exact ⟨128, by decide, by decide, rfl⟩
    · exact ⟨16384, by decide, by decide, rfl⟩
    · exact ⟨2097152, by decide, by decide, rfl⟩
  refine c_ixL (by k_subL) e ?_
  k_places
  rename_i n' H3 n0 n4 hM3 hB3
  exact k n' H3 ⟨by omega, by omega⟩ (by k_allIn) hB3
theorem rd_lw_thing (C : CF K) (h : sp_lw_thing K vs H Q E) : t_lw_thing K { nx := fun _ H' => Q .non H', rt := Q } (start n_lw_thing vs) H := by
  obtain ⟨_, _, rfl, p, kd, rfl, rfl, hb, hk, k⟩ := h
  show t_lw_thing K _ [some (.ref p), some (.int kd), none, none] H
  k_places
  refine c_ite (fun h => ?_) (fun h => ?_)
  · subst h
    k_places
    rename_i n H1 hn hM1 hB1 b H2 b0 b2 hM2 hB2 q H3 hq3 hS3 h3
    exact k _ (cellD (n, decide (b = 0))) _ (.inl ⟨rfl, (n, decide (b = 0)), hn, rfl⟩) (by k_allIn) (by k_subL) (.tup (SqT.of h3) (.cons (.int _) (.cons (.bl _) .nil)))
  k_places
  refine c_iteN (fun h3 => ?_) (fun h3 => ?_)
  · k_places
    rename_i n H1 hn hM1 hB1
    exact k _ (.int n) _ (.inr (.inr ⟨by omega, n, hn, rfl⟩)) hM1 hB1 (.int n)
  subst h3
  k_places
  rename_i l H1 hl1 hS1 h1 s H2 hs hM2 hB2
  refine c_ite (fun h => ?_) (fun h => ?_)
  · subst h
    k_places
    rename_i n H3 hn hM3 hB3 n' H4 hn' hM4 hB4 q H5 hq5 hS5 h5
    refine k _ (insD ("call", [n, n'])) _ (.inr (.inl ⟨rfl, _, ⟨by simp [opsA], ?_⟩, rfl⟩)) (by k_allIn) (by k_subL) (.tup (SqT.of h5) (.cons (.str _) (.cons (.int _) (.cons (.int _) .nil))))
    intro y hy
    simp at hy
    rcases hy with rfl | rfl <;> assumption
  k_places
  refine c_iteN (fun h' => ?_) (fun h' => ?_)
  · k_places
    rename_i n H3 hn hM3 hB3 q H5 hq5 hS5 h5
    refine k _ (insD (s, [n])) _ (.inr (.inl ⟨rfl, _, ⟨?_, ?_⟩, rfl⟩)) (by k_allIn) (by k_subL) (.tup (SqT.of h5) (.cons (.str _) (.cons (.int _) .nil)))
    · simp only [List.mem_cons, List.not_mem_nil, or_false] at hs
      rcases hs with rfl | rfl | rfl | rfl | rfl | rfl | rfl | rfl | rfl | rfl | rfl <;> first | (exfalso; exact h rfl) | (exfalso; exact h' rfl) | simp [opsA]
    · intro y hy
      simp at hy
      subst hy
      exact hn
  k_places
  rename_i l2 H3 hl3 hS3 h3 s2 H4 hs2 hM4 hB4 q H5 hq5 hS5 h5
  refine k _ (insD (s2, [])) _ (.inr (.inl ⟨rfl, _, ⟨?_, ?_⟩, rfl⟩)) (by k_allIn) (by k_subL) (.tup (SqT.of h5) (.cons (.str _) .nil))
  · simp only [List.mem_cons, List.not_mem_nil, or_false] at hs2
    rcases hs2 with rfl | rfl | rfl | rfl | rfl | rfl | rfl | rfl | rfl | rfl | rfl | rfl | rfl | rfl | rfl | rfl | rfl <;> simp [opsA]
  · intro y hy
    cases hy
theorem fm8 {i : Nat} : ((i : Int).fmod 8) = ((i % 8 : Nat) : Int) := by
  rw [Int.fmod_eq_emod_of_nonneg _ (by decide)]
  omega
theorem rd_lw_row (C : CF K) (h : sp_lw_row K vs H Q E) : t_lw_row K { nx := fun _ H' => Q .non H', rt := Q } (start n_lw_row vs) H := by
  obtain ⟨_, _, _, _, rfl, p, kd, l, m, rfl, rfl, rfl, rfl, hb, hk, m0, m6, k⟩ := h
  show t_lw_row K _ [some (.ref p), some (.int kd), some (.int l), some (.int m), none, none, none] H
  k_places
  rename_i c0 H1 c00 c01 hM1 hB1
  refine cut (fun σ' H' => Mu p H H' ∧ BagAt H' p ∧ ∃ c : Int, 0 ≤ c ∧ c ≤ 300 ∧ σ' = [some (.ref p), some (.int kd), some (.int l), some (.int m), some (.int c), none, none]) ?_ ?_
  · k_places
    refine c_ite (fun h => ?_) (fun h => ?_)
    · k_places
      rename_i c H3 hc hM3 hB3
      exact ⟨by k_allIn, hB3, c, by simp at hc; omega, by simp at hc; omega, rfl⟩
    · k_places
      exact ⟨hM1, hB1, c0, c00, by omega, rfl⟩
  rintro _ H2 ⟨hM2, hB2, c, c0', c1, rfl⟩
  k_places
  rename_i q H3 hq3 hS3 h3
  refine fr0_use (fun i σ' H' => Mu p H H' ∧ BagAt H' p ∧ i ≤ c.toNat ∧ ∃ us ds x, H' q = some (.lst us) ∧ DpAll K H' us ds ∧ us.length = i ∧ (∀ d ∈ ds, ThK kd d) ∧ σ' = [some (.ref p), some (.int kd), some (.int l), some (.int m), some (.int c), some (.ref q), x]) ⟨by k_allIn, by k_subL, Nat.zero_le _, [], [], _, h3, .nil, rfl, (fun d h => by cases h), rfl⟩ ?_ ?_
  · rintro i _ H4 hi ⟨hM4, hB4, hi2, us, ds, x, h4, hu, hl, hds, rfl⟩
    have hpq : q ≠ p := by k_clsL
    have hlen := DpAll.len hu
    k_places
    refine c_ite (fun h => ?_) (fun h => ?_)
    · k_places
      refine u_thing hB4 hk fun v d H5 hd hM5 hB5 hv => ?_
      have h5 := hM5.keep _ _ hpq h4
      have hu5 := DpAll.mu hM5 (mut_b hB4) (immAll_of fun d h => (hds d h).imm) hu
      k_places
      rename_i H6 hM6 h6
      have hu6 := DpAll.mu hM6 (mut_l h5) (immAll_of fun d h => (hds d h).imm) hu5
      exact ⟨Mu.mut (hM4.trans hM5) hM6 (by k_memK), bag_m hM6 (Ne.symm hpq) hB5, hi, _, ds ++ [d], _, h6, DpAll.append hu6 (.cons (Dp.mu hM6 (mut_l h5) hd.imm hv) .nil), by simp; omega, (fun e he => by
        rcases List.mem_append.mp he with he | he
        · exact hds e he
        · simp at he; subst he; exact hd), rfl⟩
    · k_places
      rw [fm8]
      have hj : i % 8 < us.length := by omega
      obtain ⟨d, hd1, hd2⟩ := DpAll.get hu (List.getElem?_eq_getElem hj)
      refine c_ixL (SqL.of h4) (atI_nat (List.getElem?_eq_getElem hj)) ?_
      k_places
      rename_i H6 hM6 h6
      have hu6 := DpAll.mu hM6 (mut_l h4) (immAll_of fun d h => (hds d h).imm) hu
      have hdm := hds d (List.mem_of_getElem? hd1)
      exact ⟨Mu.mut hM4 hM6 (by k_memK), bag_m hM6 (Ne.symm hpq) hB4, hi, _, ds ++ [d], _, h6, DpAll.append hu6 (.cons (Dp.mu hM6 (mut_l h4) hdm.imm hd2) .nil), by simp; omega, (fun e he => by
        rcases List.mem_append.mp he with he | he
        · exact hds e he
        · simp at he; subst he; exact hdm), rfl⟩
  · rintro _ H4 ⟨hM4, hB4, -, us, ds, x, h4, hu, hl, hds, rfl⟩
    have hlen := DpAll.len hu
    k_places
    rename_i t H5 ht5 hS5 h5
    exact k _ ds _ ⟨by omega, hds⟩ (by k_allIn) (by k_subL) (.tup (SqT.of h5) (DpAll.same hS5 hu))
theorem rd_lw_rows (C : CF K) (h : sp_lw_rows K vs H Q E) : t_lw_rows K { nx := fun _ H' => Q .non H', rt := Q } (start n_lw_rows vs) H := by
  obtain ⟨_, _, _, rfl, p, kd, l, rfl, rfl, rfl, hb, hk, k⟩ := h
  show t_lw_rows K _ [some (.ref p), some (.int kd), some (.int l), none, none, none] H
  k_places
  rename_i c0 H1 c00 c01 hM1 hB1
  refine cut (fun σ' H' => Mu p H H' ∧ BagAt H' p ∧ ∃ c : Int, 0 ≤ c ∧ c ≤ 300 ∧ σ' = [some (.ref p), some (.int kd), some (.int l), some (.int c), none, none]) ?_ ?_
  · k_places
    refine c_ite (fun h => ?_) (fun h => ?_)
    · k_places
      rename_i c H3 hc hM3 hB3
      exact ⟨by k_allIn, hB3, c, by simp at hc; omega, by simp at hc; omega, rfl⟩
    · k_places
      exact ⟨hM1, hB1, c0, c00, by omega, rfl⟩
  rintro _ H2 ⟨hM2, hB2, c, c0', c1, rfl⟩
  k_places
  rename_i q H3 hq3 hS3 h3
  refine fr0_use (fun i σ' H' => Mu p H H' ∧ BagAt H' p ∧ i ≤ c.toNat ∧ ∃ (us : List V) (ds : List (List PyData)) (x : Option V), H' q = some (.lst us) ∧ DpAll K H' us (ds.map PyData.tuple) ∧ us.length = i ∧ (∀ d ∈ ds, RowK (kd + 1) d) ∧ σ' = [some (.ref p), some (.int kd), some (.int l), some (.int c), some (.ref q), x]) ⟨by k_allIn, by k_subL, Nat.zero_le _, [], [], _, h3, .nil, rfl, (fun d h => by cases h), rfl⟩ ?_ ?_
  · rintro i _ H4 hi ⟨hM4, hB4, hi2, us, ds, x, h4, hu, hl, hds, rfl⟩
    have hpq : q ≠ p := by k_clsL
    have himm : immAll (ds.map PyData.tuple) = true := immAll_of fun d h => by
      obtain ⟨e, he, rfl⟩ := List.mem_map.mp h
      exact (hds e he).imm
    k_places
    refine c_ite (fun h => ?_) (fun h => ?_)
    · k_places
      rename_i r H5 hr5 hS5 h5
      obtain ⟨n, n0, n6, e⟩ : ∃ n : Int, 0 ≤ n ∧ n ≤ 6 ∧ atI [V.int 4, .int 0, .int 6, .int 0, .int 4] kd = some (.int n) := by
        rcases hk with rfl | rfl | rfl
        · exact ⟨4, by decide, by decide, rfl⟩
        · exact ⟨6, by decide, by decide, rfl⟩
        · exact ⟨4, by decide, by decide, rfl⟩
      refine c_ixL (SqL.of h5) e ?_
      k_places
      have hB5 : BagAt H5 p := by k_subL
      refine u_row hB5 (by omega) n0 n6 fun v d H6 hd hM6 hB6 hv => ?_
      have h6 := hM6.keep _ _ hpq (hS5 _ _ h4)
      have hu6 := DpAll.mu hM6 (mut_b hB5) himm (DpAll.same hS5 hu)
      k_places
      rename_i H7 hM7 h7
      have hu7 := DpAll.mu hM7 (mut_l h6) himm hu6
      exact ⟨Mu.mut ((hM4.transS hS5).trans hM6) hM7 (by k_memK), bag_m hM7 (Ne.symm hpq) hB6, hi, _, ds ++ [d], _, h7, by rw [List.map_append]; exact DpAll.append hu7 (.cons (Dp.mu hM7 (mut_l h6) hd.imm hv) .nil), by simp; omega, (fun e he => by
        rcases List.mem_append.mp he with he | he
        · exact hds e he
        · simp at he; subst he; exact hd), rfl⟩
    · k_places
      rw [fm8]
      have hj : i % 8 < us.length := by omega
      obtain ⟨d', hd1, hd2⟩ := DpAll.get hu (List.getElem?_eq_getElem hj)
      obtain ⟨d, hdm, rfl⟩ := List.mem_map.mp (List.mem_of_getElem? hd1)
      refine c_ixL (SqL.of h4) (atI_nat (List.getElem?_eq_getElem hj)) ?_
      k_places
      rename_i H6 hM6 h6
      have hu6 := DpAll.mu hM6 (mut_l h4) himm hu
      have hdm := hds d hdm
      exact ⟨Mu.mut hM4 hM6 (by k_memK), bag_m hM6 (Ne.symm hpq) hB4, hi, _, ds ++ [d], _, h6, by rw [List.map_append]; exact DpAll.append hu6 (.cons (Dp.mu hM6 (mut_l h4) hdm.imm hd2) .nil), by simp; omega, (fun e he => by
        rcases List.mem_append.mp he with he | he
        · exact hds e he
        · simp at he; subst he; exact hdm), rfl⟩
  · rintro _ H4 ⟨hM4, hB4, -, us, ds, x, h4, hu, hl, hds, rfl⟩
    have hlen := DpAll.len hu
    rw [List.length_map] at hlen
    k_places
    exact k q us ds H4 (by k_memK) h4 (by omega) hds hu hM4 hB4
end
theorem pick_all {α β : Type} {f : α → β} {P : α → Prop} : ∀ {ds : List β}, (∀ d ∈ ds, ∃ c, P c ∧ d = f c) → ∃ cs : List α, ds = cs.map f ∧ ∀ c ∈ cs, P c
  | [], _ => ⟨[], rfl, fun _ h => by cases h⟩
  | d :: ds, h => by
    obtain ⟨c, hc, rfl⟩ := h d (List.mem_cons_self ..)
    obtain ⟨cs, rfl, hcs⟩ := pick_all fun e he => h e (List.mem_cons_of_mem _ he)
    exact ⟨c :: cs, rfl, fun x hx => by
      rcases List.mem_cons.mp hx with rfl | hx
      · exact hc
      · exact hcs x hx⟩
theorem rows_T {dss : List (List PyData)} (h : ∀ ds ∈ dss, RowK (0 + 1) ds) : ∃ ts : List Tbl, dss.map PyData.tuple = ts.map tabD ∧ ts.length = dss.length ∧ ∀ t ∈ ts, okT t := by
  obtain ⟨ts, rfl, h2⟩ := pick_all (f := fun t : Tbl => t.map cellD) (P := okT) (ds := dss) fun ds hd => by
    obtain ⟨cs, rfl, hc⟩ := pick_all (f := cellD) (P := okC) (ds := ds) fun d hd2 => by
      rcases (h ds hd).2 d hd2 with ⟨_, c, hc, rfl⟩ | ⟨e, _⟩ | ⟨e, _⟩
      · exact ⟨c, hc, rfl⟩
      · exact absurd e (by decide)
      · exact absurd e (by decide)
    exact ⟨cs, ⟨by have := (h _ hd).1; simpa using this, hc⟩, rfl⟩
  exact ⟨ts, by rw [List.map_map]; rfl, by simp, h2⟩
theorem rows_I {dss : List (List PyData)} (h : ∀ ds ∈ dss, RowK (2 + 1) ds) : ∃ ts : List (List Ins), dss.map PyData.tuple = ts.map (fun t => .tuple (t.map insD)) ∧ ts.length = dss.length ∧ ∀ t ∈ ts, t.length ≤ 300 ∧ ∀ i ∈ t, okI i := by
  obtain ⟨ts, rfl, h2⟩ := pick_all (f := fun t : List Ins => t.map insD) (P := fun t => t.length ≤ 300 ∧ ∀ i ∈ t, okI i) (ds := dss) fun ds hd => by
    obtain ⟨cs, rfl, hc⟩ := pick_all (f := insD) (P := okI) (ds := ds) fun d hd2 => by
      rcases (h ds hd).2 d hd2 with ⟨e, _⟩ | ⟨_, c, hc, rfl⟩ | ⟨e, _⟩
      · exact absurd e (by decide)
      · exact ⟨c, hc, rfl⟩
      · exact absurd e (by decide)
    exact ⟨cs, ⟨by have := (h _ hd).1; simpa using this, hc⟩, rfl⟩
  exact ⟨ts, by rw [List.map_map]; rfl, by simp, h2⟩
theorem rows_P {dss : List (List PyData)} (h : ∀ ds ∈ dss, RowK (4 + 1) ds) : ∃ ts : List (List Int), dss.map PyData.tuple = ts.map planD ∧ ts.length = dss.length ∧ ∀ t ∈ ts, okP t := by
  obtain ⟨ts, rfl, h2⟩ := pick_all (f := fun t : List Int => t.map PyData.int) (P := okP) (ds := dss) fun ds hd => by
    obtain ⟨cs, rfl, hc⟩ := pick_all (f := PyData.int) (P := okN) (ds := ds) fun d hd2 => by
      rcases (h ds hd).2 d hd2 with ⟨e, _⟩ | ⟨e, _⟩ | ⟨_, c, hc, rfl⟩
      · exact absurd e (by decide)
      · exact absurd e (by decide)
      · exact ⟨c, hc, rfl⟩
    exact ⟨cs, ⟨by have := (h _ hd).1; simpa using this, hc⟩, rfl⟩
  exact ⟨ts, by rw [List.map_map]; rfl, by simp, h2⟩
def sp_lw_image (K : PySem.W.Frag) : Sp := Sp1 fun a H Q _ => ∃ p, a = .ref p ∧ BagAt H p ∧ ∀ v m H', okM m → Mu p H H' → BagAt H' p → Dp K H' v (imgD m) → Q v H'
def sp_lw_groups (_K : PySem.W.Frag) : Sp := Sp1 fun a H Q _ => ∃ n : Int, a = .int n ∧ okN n ∧ ∀ p H', H p = none → Same H H' → H' p = some (.lst ((enc n).map V.int)) → Q (.ref p) H'
def sp_lw_bytes (K : PySem.W.Frag) : Sp := Sp1 fun a H Q _ => ∃ m : Img, okM m ∧ Dp K H a (imgD m) ∧ ∀ p H', H p = none → Same H H' → H' p = some (.lst ((bytesM m).map V.int)) → Q (.ref p) H'
abbrev n_lw_image : List Str := ["bag", "large", "tables", "segments", "plan", "code"]
abbrev t_lw_image (K : PySem.W.Frag) : TS :=
    tSeq (tAsg (tCall (sp_lw_take K) [] E0 (tCons (tVar 0) (tCons (tC (.int 30)) (tNil)))) (gName 1))
            (tSeq (tAsg (tCall (sp_lw_rows K) [] E0 (tCons (tVar 0) (tCons (tC (.int 0)) (tCons (tVar 1) (tNil))))) (gName 2))
            (tSeq (tAsg (tLc (iList K (tCall (sp_lw_rows K) [] E0 (tCons (tVar 0) (tCons (tC (.int 2)) (tCons (tVar 1) (tNil)))))) (gName 5) (tYes) (tTup (tCons (tCall (sp_lw_size K) [] E0 (tCons (tVar 0) (tNil))) (tCons (tVar 5) (tNil)))) [5]) (gName 3))
            (tSeq (tAsg (tCall (sp_lw_rows K) [] E0 (tCons (tVar 0) (tCons (tC (.int 4)) (tCons (tVar 1) (tNil))))) (gName 4))
            (tRet (tTup (tCons (tCB (rTupleOf K) (tCons (tVar 2) (tNil))) (tCons (tCB (rTupleOf K) (tCons (tVar 3) (tNil))) (tCons (tCB (rTupleOf K) (tCons (tVar 4) (tNil))) (tNil)))))))))

abbrev n_lw_groups : List Str := ["n", "row", "k"]
abbrev t_lw_groups (K : PySem.W.Frag) : TS :=
    tSeq (tAsg (tLst (tNil)) (gName 1))
            (tSeq (tFor (iRng1 (tCons (tC (.int 3)) (tNil))) (gName 2) (tIfS (tTest (tOp rGe (tVar 0) (tC (.int 128)))) (tSeq (tDrop (tBM K "list" rAppend (tVar 1) (tCons (tOp rAddI (tOp rModN (tCB rInt1 (tCons (tVar 0) (tNil))) (tC (.int 128))) (tC (.int 128))) (tNil))))
            (tAsg (tOp rDivN (tVar 0) (tC (.int 128))) (gName 0))) (tRet (tOp rCat (tVar 1) (tLst (tCons (tVar 0) (tNil)))))))
            (tRet (tVar 1)))

abbrev n_lw_bytes : List Str := ["image", "names", "row", "table", "cell", "segment", "one", "parts", "data", "n"]
abbrev t_lw_bytes (K : PySem.W.Frag) : TS :=
    tSeq (tAsg (tLst (tCons (tC (.str "num")) (tCons (tC (.str "get")) (tCons (tC (.str "put")) (tCons (tC (.str "pace")) (tCons (tC (.str "pick")) (tCons (tC (.str "dup")) (tCons (tC (.str "drop")) (tCons (tC (.str "bit")) (tCons (tC (.str "not")) (tCons (tC (.str "add")) (tCons (tC (.str "sub")) (tCons (tC (.str "mul")) (tCons (tC (.str "min")) (tCons (tC (.str "max")) (tCons (tC (.str "lt")) (tCons (tC (.str "le")) (tNil)))))))))))))))))) (gName 1))
            (tSeq (tAsg (tOp rCat (tVar 1) (tLst (tCons (tC (.str "eq")) (tCons (tC (.str "ne")) (tCons (tC (.str "ge")) (tCons (tC (.str "gt")) (tCons (tC (.str "hop")) (tCons (tC (.str "hopno")) (tCons (tC (.str "call")) (tCons (tC (.str "beat")) (tCons (tC (.str "back")) (tNil)))))))))))) (gName 1))
            (tSeq (tAsg (tLst (tCons (tCB (rLen K) (tCons (tOp (rIxT K) (tVar 0) (tC (.int 0))) (tNil))) (tNil))) (gName 2))
            (tSeq (tFor (iTup K (tOp (rIxT K) (tVar 0) (tC (.int 0)))) (gName 3) (tSeq (tDrop (tBM K "list" rAppend (tVar 2) (tCons (tCB (rLen K) (tCons (tVar 3) (tNil))) (tNil))))
            (tFor (iTup K (tVar 3)) (gName 4) (tDrop (tBM K "list" rExtend (tVar 2) (tCons (tLst (tCons (tOp (rIxT K) (tVar 4) (tC (.int 0))) (tCons (tCB rInt1 (tCons (tOp (rIxT K) (tVar 4) (tC (.int 1))) (tNil))) (tNil)))) (tNil)))))))
            (tSeq (tDrop (tBM K "list" rAppend (tVar 2) (tCons (tCB (rLen K) (tCons (tOp (rIxT K) (tVar 0) (tC (.int 1))) (tNil))) (tNil))))
            (tSeq (tFor (iTup K (tOp (rIxT K) (tVar 0) (tC (.int 1)))) (gName 5) (tSeq (tDrop (tBM K "list" rExtend (tVar 2) (tCons (tLst (tCons (tOp (rIxT K) (tVar 5) (tC (.int 0))) (tCons (tCB (rLen K) (tCons (tOp (rIxT K) (tVar 5) (tC (.int 1))) (tNil))) (tNil)))) (tNil))))
            (tFor (iTup K (tOp (rIxT K) (tVar 5) (tC (.int 1)))) (gName 6) (tSeq (tDrop (tBM K "list" rAppend (tVar 2) (tCons (tBM K "list" (rIndexL K) (tVar 1) (tCons (tOp (rIxT K) (tVar 6) (tC (.int 0))) (tNil))) (tNil))))
            (tDrop (tBM K "list" (rExtendT K) (tVar 2) (tCons (tSl (L2.rSlA K) (tVar 6) (tPart (tC (.int 1))) (tNoPart)) (tNil))))))))
            (tSeq (tDrop (tBM K "list" rAppend (tVar 2) (tCons (tCB (rLen K) (tCons (tOp (rIxT K) (tVar 0) (tC (.int 2))) (tNil))) (tNil))))
            (tSeq (tFor (iTup K (tOp (rIxT K) (tVar 0) (tC (.int 2)))) (gName 7) (tSeq (tDrop (tBM K "list" rAppend (tVar 2) (tCons (tCB (rLen K) (tCons (tVar 7) (tNil))) (tNil))))
            (tDrop (tBM K "list" (rExtendT K) (tVar 2) (tCons (tVar 7) (tNil))))))
            (tSeq (tAsg (tLst (tCons (tC (.int 82)) (tNil))) (gName 8))
            (tSeq (tFor (iList K (tVar 2)) (gName 9) (tDrop (tBM K "list" rExtend (tVar 8) (tCons (tCall (sp_lw_groups K) [] E0 (tCons (tVar 9) (tNil))) (tNil)))))
            (tRet (tOp rCat (tVar 8) (tLst (tCons (tOp rModN (tCB rInt1 (tCons (tCB (rSum K) (tCons (tVar 8) (tNil))) (tNil))) (tC (.int 256))) (tNil))))))))))))))

section
variable {K : PySem.W.Frag} {vs : List V} {H : Hp} {Q : VK} {E : XK} {p : Addr}
theorem u_lgroups {n : Int} (h : okN n) (k : ∀ p H', H p = none → Same H H' → H' p = some (.lst ((enc n).map V.int)) → Q (.ref p) H') : sp_lw_groups K [.int n] H Q E := ⟨_, rfl, n, rfl, h, k⟩
theorem u_lbytes {a : V} {m : Img} (h : okM m) (hd : Dp K H a (imgD m)) (k : ∀ p H', H p = none → Same H H' → H' p = some (.lst ((bytesM m).map V.int)) → Q (.ref p) H') : sp_lw_bytes K [a] H Q E := ⟨_, rfl, m, h, hd, k⟩
theorem u_image (hb : BagAt H p) (k : ∀ v m H', okM m → Mu p H H' → BagAt H' p → Dp K H' v (imgD m) → Q v H') : sp_lw_image K [.ref p] H Q E := ⟨_, rfl, p, rfl, hb, k⟩
theorem rd_lw_groups (C : CF K) (h : sp_lw_groups K vs H Q E) : t_lw_groups K { nx := fun _ H' => Q .non H', rt := Q } (start n_lw_groups vs) H := by
  obtain ⟨_, rfl, n, rfl, hn, k⟩ := h
  show t_lw_groups K _ [some (.int n), none, none] H
  k_places
  rename_i l H1 hl hS1 h1
  refine fr0_use (fun i σ' H' => Same H H' ∧ i ≤ 2 ∧ ∃ (r : Int) (s : List Int) (x : Option V), σ' = [some (.int r), some (.ref l), x] ∧ H' l = some (.lst (s.map V.int)) ∧ s ++ encF (2 - i) r = enc n ∧ 0 ≤ r ∧ r < 128 ^ (3 - i) ∧ s.length ≤ i) ⟨hS1, by omega, n, [], none, rfl, h1, rfl, hn.1, hn.2, by simp⟩ ?_ ?_
  · rintro i _ H2 hi ⟨hS2, hi2, r, s, x, rfl, h2, he, h0, hlt, hz⟩
    k_places
    refine c_ite (fun h => ?_) (fun h => ?_)
    · k_places
      rename_i H3 hM3 h3
      obtain ⟨j, hj⟩ : ∃ j, 2 - i = j + 1 := by
        rcases Nat.eq_zero_or_pos (2 - i) with z | z
        · exfalso
          have : i = 2 := by omega
          subst this
          simp at hlt
          omega
        · exact ⟨2 - i - 1, by omega⟩
      have e1 : 3 - i = (3 - (i + 1)) + 1 := by omega
      refine ⟨by k_offL, by omega, _, s ++ [r.fmod 128 + 128], _, rfl, lst_is h3 (by simp), ?_, ?_, ?_, by simp; omega⟩
      · rw [← he, hj, encF_step (by omega), show 2 - (i + 1) = j from by omega]
        simp
      · rw [fd128 h0]; omega
      · rw [fd128 h0, Int.ediv_lt_iff_lt_mul (by decide)]
        rw [e1, Int.pow_succ] at hlt
        exact hlt
    · k_places
      rename_i p1 H3 hp1 hS3 h3 p2 H4 hp2 hS4 h4
      refine k p2 H4 (by k_memK) (by k_offL) (lst_is h4 ?_)
      rw [← he]
      cases 2 - i with
      | zero => simp [encF]
      | succ j => simp [encF, if_pos (by omega : r < 128)]
  · rintro _ H2 ⟨_, hi, _⟩
    exfalso; omega
theorem rd_lw_image (C : CF K) (h : sp_lw_image K vs H Q E) : t_lw_image K { nx := fun _ H' => Q .non H', rt := Q } (start n_lw_image vs) H := by
  obtain ⟨_, rfl, p, rfl, hb, k⟩ := h
  show t_lw_image K _ [some (.ref p), none, none, none, none, none] H
  k_places
  rename_i l H1 l0 l1 hM1 hB1
  refine u_rows hB1 (.inl rfl) fun q2 us2 ds2 H2 hq2 h2 hl2 ho2 hu2 hM2 hB2 => ?_
  obtain ⟨ts, e2, hlt, hot⟩ := rows_T ho2
  rw [e2] at hu2
  k_places
  refine u_rows hB2 (.inr (.inl rfl)) fun q3 us3 ds3 H3 hq3 h3 hl3 ho3 hu3 hM3 hB3 => ?_
  obtain ⟨is, e3, hli, hoi⟩ := rows_I ho3
  rw [e3] at hu3
  have im3 : immAll (is.map fun t => PyData.tuple (t.map insD)) = true := immAll_map (fun t => by show immAll _ = true; exact immAll_map imm_i t) is
  have hlu := DpAll.len hu3
  rw [List.length_map] at hlu
  have hq2p : q2 ≠ p := by k_clsL
  have h23 := hM3.keep _ _ hq2p h2
  have hu23 := DpAll.mu hM3 (mut_b hB2) (immAll_map imm_t _) hu2
  k_places
  refine lcl_inv (fun v : V => v) us3 (fun i acc H' => Mu p H3 H' ∧ BagAt H' p ∧ ∃ ss : List Seg, ss.length = i ∧ DpAll K H' acc (ss.map segD) ∧ ∀ x ∈ ss, okS x) (by rw [List.map_id']; exact SqL.of h3) (fun i acc H' p' => by
      rw [List.map_id']
      exact SqL.of (p'.1.keep _ _ (by k_clsL) h3)) (fun D H4 hD hS4 h4 => ⟨Same.mu hS4, bag_s hS4 hB3, [], rfl, .nil, fun _ h => by cases h⟩) ?_ ?_
  · rintro i y acc D H4 hi hD hA hl ⟨hM4, hB4, ss, hsl, hss, hos⟩
    have hip : i < us3.length := (List.getElem?_eq_some_iff.mp hi).1
    obtain ⟨dd, hd1, hd2⟩ := DpAll.get hu3 hi
    obtain ⟨t, ht, rfl⟩ := List.mem_map.mp (List.mem_of_getElem? hd1)
    have imt : imm (PyData.tuple (t.map insD)) = true := by show immAll _ = true; exact immAll_map imm_i t
    have hDp : D ≠ p := Ne.symm (bag_ne hB3 hD)
    k_places
    refine u_size hB4 fun n H5 hn hM5 hB5 => ?_
    k_places
    rename_i z H6 hz hS6 h6
    have hA6 := hS6 _ _ (hM5.keep _ _ hDp hA)
    refine c_endE hA6 hl (by omega) fun H7 hM7 h7 => ⟨Mu.mut ((hM4.trans hM5).transS hS6) hM7 hD, bag_m hM7 (Ne.symm hDp) (bag_s hS6 hB5), ss ++ [(n, t)], by simp; omega, ?_, ?_⟩
    · rw [List.map_append]
      refine DpAll.append (DpAll.mu hM7 (mut_l hA6) (immAll_map imm_s _) (DpAll.same hS6 (DpAll.mu hM5 (mut_b hB4) (immAll_map imm_s _) hss))) (.cons (Dp.mu hM7 (mut_l hA6) (imm_s _) (.tup (SqT.of h6) (.cons (.int _) (.cons (Dp.same hS6 (Dp.mu hM5 (mut_b hB4) imt (Dp.mu hM4 (mut_b hB3) imt hd2))) .nil)))) .nil)
    · intro x hx
      rcases List.mem_append.mp hx with hx | hx
      · exact hos x hx
      · simp at hx; subst hx; exact ⟨hn, (hoi t ht).1, (hoi t ht).2⟩
  · rintro acc D H4 hD hA hl ⟨hM4, hB4, ss, hsl, hss, hos⟩
    have h24 := hM4.keep _ _ hq2p h23
    have hu24 := DpAll.mu hM4 (mut_b hB3) (immAll_map imm_t _) hu23
    have hDp : D ≠ p := Ne.symm (bag_ne hB3 hD)
    k_places
    refine u_rows hB4 (.inr (.inr rfl)) fun q5 us5 ds5 H5 hq5 h5 hl5 ho5 hu5 hM5 hB5 => ?_
    obtain ⟨ps, e5, hlp, hop⟩ := rows_P ho5
    rw [e5] at hu5
    have h25 := hM5.keep _ _ hq2p h24
    have hu25 := DpAll.mu hM5 (mut_b hB4) (immAll_map imm_t _) hu24
    have hA5 := hM5.keep _ _ hDp hA
    have hss5 := DpAll.mu hM5 (mut_b hB4) (immAll_map imm_s _) hss
    k_places
    rename_i a6 H6 ha6 hS6 h6 a7 H7 ha7 hS7 h7 a8 H8 ha8 hS8 h8 a9 H9 ha9 hS9 h9
    have s69 : Same H6 H9 := (hS7.trans hS8).trans hS9
    refine k _ (ts, ss, ps) _ ⟨⟨(by omega : ts.length ≤ 300), hot⟩, ⟨(by omega : ss.length ≤ 300), hos⟩, (by omega : ps.length ≤ 300), hop⟩ ?_ (bag_s hS9 (bag_s hS8 (bag_s hS7 (bag_s hS6 hB5)))) ?_
    · exact ((((hM1.trans hM2).trans hM3).trans hM4).trans hM5).transS (hS6.trans s69)
    · exact .tup (SqT.of h9) (.cons (.tup (SqT.of (s69 _ _ h6)) (DpAll.same (hS6.trans s69) hu25)) (.cons (.tup (SqT.of ((hS8.trans hS9) _ _ h7)) (DpAll.same (hS6.trans s69) hss5)) (.cons (.tup (SqT.of (hS9 _ _ h8)) (DpAll.same (hS6.trans s69) hu5)) .nil)))
theorem rd_lw_bytes (C : CF K) (h : sp_lw_bytes K vs H Q E) : t_lw_bytes K { nx := fun _ H' => Q .non H', rt := Q } (start n_lw_bytes vs) H := by
  obtain ⟨_, rfl, m, hok, hd, k⟩ := h
  obtain ⟨a, b, c, d, vt, vg, vp, rfl, ha, hb, rb, hc, rc, hd, rd⟩ := dpm hd
  have lb := DpAll.len rb
  have lc := DpAll.len rc
  have ld := DpAll.len rd
  rw [List.length_map] at lb lc ld
  obtain ⟨nl, n1, n2, n3⟩ := numM_len hok
  show t_lw_bytes K _ [some (.ref a), none, none, none, none, none, none, none, none, none] H
  k_places
  rename_i o1 G1 ho1 hT1 g1 o2 G2 ho2 hT2 g2 o3 G3 ho3 hT3 g3 l H1 hl hS1 h1
  rw [lb] at h1
  have hops : G3 o3 = some (.lst (ops.map V.str)) := lst_is g3 rfl
  have hG : Same H G3 := by k_offL
  have haG := sqt_s hG ha
  have hbG := sqt_s hG hb
  have hcG := sqt_s hG hc
  have hdG := sqt_s hG hd
  have rbG := DpAll.same hG rb
  have rcG := DpAll.same hG rc
  have rdG := DpAll.same hG rd
  have hlo : o3 ≠ l := ne_of_none hops hl
  refine ft_app tabD numT m.1 [(m.1.length : Int)] 1000000 (sqt_s hS1 hbG) (DpAll.same hS1 rbG) (by simp only [List.length_append, List.length_cons, List.length_nil]; omega) (fun s σ' H' => Same G3 H' ∧ H' l = some (.lst (s.map V.int)) ∧ ∃ x3 x4 x5 x6 x7 x8 x9, σ' = [some (.ref a), some (.ref o3), some (.ref l), x3, x4, x5, x6, x7, x8, x9]) (fun s σ' H' p => ⟨sqt_s p.1 hbG, DpAll.same p.1 rbG⟩) ⟨hS1, h1, _, _, _, _, _, _, _, rfl⟩ ?_ ?_
  · rintro s t v _ H2 ht hz hv ⟨hS2, h2, x3, x4, x5, x6, x7, x8, x9, rfl⟩
    obtain ⟨e, us, rfl, he, hu⟩ := Dp.tup_inv hv
    have lu := DpAll.len hu
    rw [List.length_map] at lu
    have hz2 : s.length ≤ 1000000 := by omega
    have hz3 := numT_len (hok.1.2 t ht)
    k_places
    rename_i H3 hM3 h3
    rw [lu] at h3
    have hS3 : Same G3 H3 := Same.mut hS2 hM3 hl
    have he3 : SqT K H3 e us := sqt_m hM3 (mut_l h2) he
    have hu3 : DpAll K H3 us (t.map cellD) := DpAll.mu hM3 (mut_l h2) (immAll_map (fun _ => rfl) t) hu
    refine ft_app cellD numC t (s ++ [(t.length : Int)]) 1000000 he3 hu3 (by unfold numT at hz; simp only [List.length_append, List.length_cons, List.length_nil] at *; omega) (fun s σ' H' => (Same G3 H' ∧ SqT K H' e us ∧ DpAll K H' us (t.map cellD)) ∧ H' l = some (.lst (s.map V.int)) ∧ ∃ x4 x5 x6 x7 x8 x9, σ' = [some (.ref a), some (.ref o3), some (.ref l), some (.ref e), x4, x5, x6, x7, x8, x9]) (fun s σ' H' p => p.1.2) ⟨⟨hS3, he3, hu3⟩, lst_is h3 (by simp), _, _, _, _, _, _, rfl⟩ ?_ ?_
    · rintro s4 y v _ H4 hy hz4 hv ⟨⟨hS4, he4, hu4⟩, h4, x4, x5, x6, x7, x8, x9, rfl⟩
      obtain ⟨f, rfl, hf⟩ := dpc hv
      have hz5 : s4.length ≤ 1000000 := by omega
      k_places
      rename_i n5 H5 hn5 hS5 h5 H6 hM6 h6
      refine ⟨⟨Same.mut (hS4.trans hS5) hM6 hl, sqt_m hM6 (mut_l (hS5 _ _ h4)) (sqt_s hS5 he4), DpAll.mu hM6 (mut_l (hS5 _ _ h4)) (immAll_map (fun _ => rfl) t) (DpAll.same hS5 hu4)⟩, lst_is h6 (by simp [numC]), _, _, _, _, _, _, rfl⟩
    · rintro _ H4 ⟨⟨hS4, he4, hu4⟩, h4, x4, x5, x6, x7, x8, x9, rfl⟩
      exact ⟨hS4, lst_is h4 (by simp [numT]), _, _, _, _, _, _, _, rfl⟩
  rintro _ H2 ⟨hS2, h2, x3, x4, x5, x6, x7, x8, x9, rfl⟩
  k_places
  rename_i H3 hM3 h3
  rw [lc] at h3
  have hS3 : Same G3 H3 := Same.mut hS2 hM3 hl
  refine ft_app segD numS m.2.1 ([(m.1.length : Int)] ++ m.1.flatMap numT ++ [(m.2.1.length : Int)]) 1000000 (sqt_s hS3 hcG) (DpAll.same hS3 rcG) (by simp only [List.length_append, List.length_cons, List.length_nil]; omega) (fun s σ' H' => Same G3 H' ∧ H' l = some (.lst (s.map V.int)) ∧ ∃ x3 x4 x5 x6 x7 x8 x9, σ' = [some (.ref a), some (.ref o3), some (.ref l), x3, x4, x5, x6, x7, x8, x9]) (fun s σ' H' p => ⟨sqt_s p.1 hcG, DpAll.same p.1 rcG⟩) ⟨hS3, lst_is h3 (by simp), _, _, _, _, _, _, _, rfl⟩ ?_ ?_
  · rintro s t v _ H4 ht hz hv ⟨hS4, h4, x3, x4, x5, x6, x7, x8, x9, rfl⟩
    obtain ⟨e, g, us, rfl, he, hg, hu⟩ := dps hv
    have lu := DpAll.len hu
    rw [List.length_map] at lu
    have hz2 : s.length ≤ 1000000 := by omega
    have hz3 := numS_len (hok.2.1.2 t ht)
    k_places
    rename_i n5 H5 hn5 hS5 h5 H6 hM6 h6
    rw [lu] at h6
    have hS6 : Same G3 H6 := Same.mut (hS4.trans hS5) hM6 hl
    have mm := mut_l (hS5 _ _ h4)
    have he6 : SqT K H6 g us := sqt_m hM6 mm (sqt_s hS5 hg)
    have hu6 : DpAll K H6 us (t.2.map insD) := DpAll.mu hM6 mm (immAll_map imm_i _) (DpAll.same hS5 hu)
    refine ft_app insD numI t.2 (s ++ [t.1, (t.2.length : Int)]) 1000000 he6 hu6 (by unfold numS at hz; simp only [List.length_append, List.length_cons, List.length_nil] at *; omega) (fun s σ' H' => (Same G3 H' ∧ SqT K H' g us ∧ DpAll K H' us (t.2.map insD)) ∧ H' l = some (.lst (s.map V.int)) ∧ ∃ x3 x4 x5 x6 x7 x8 x9, σ' = [some (.ref a), some (.ref o3), some (.ref l), x3, x4, x5, x6, x7, x8, x9]) (fun s σ' H' p => p.1.2) ⟨⟨hS6, he6, hu6⟩, lst_is h6 (by simp), _, _, _, _, _, _, _, rfl⟩ ?_ ?_
    · rintro s7 y v _ H7 hy hz7 hv ⟨⟨hS7, he7, hu7⟩, h7, x3, x4, x5, x6, x7, x8, x9, rfl⟩
      obtain ⟨f, rfl, hf⟩ := dpi hv
      have hz8 : s7.length ≤ 1000000 := by omega
      have hi := (hok.2.1.2 t ht).2.2 y hy
      have hi2 := okI_len hi
      k_places
      refine c_indexL (ys := ops) (SqL.of (hS7 _ _ hops)) (okI_mem hi) ?_
      k_places
      rename_i H8 hM8 h8 q H9 hS9 h9
      rw [cutV_drop (by decide)] at h9
      have h89 := hS9 _ _ h8
      refine c_extendT (zs := y.2.map V.int) h89 h9 (by k_caughtNB) (fun HA hMA hA => ?_)
      k_places
      have mA := mut_l h89
      have mB := mut_l h7
      exact ⟨⟨Same.mut ((Same.mut hS7 hM8 hl).trans hS9) hMA hl, sqt_m hMA mA (sqt_s hS9 (sqt_m hM8 mB he7)), DpAll.mu hMA mA (immAll_map imm_i _) (DpAll.same hS9 (DpAll.mu hM8 mB (immAll_map imm_i _) hu7))⟩, lst_is hA (by simp [numI]), _, _, _, _, _, _, _, rfl⟩
    · rintro _ H7 ⟨⟨hS7, he7, hu7⟩, h7, x3, x4, x5, x6, x7, x8, x9, rfl⟩
      exact ⟨hS7, lst_is h7 (by simp [numS]), _, _, _, _, _, _, _, rfl⟩
  rintro _ H4 ⟨hS4, h4, x3, x4, x5, x6, x7, x8, x9, rfl⟩
  k_places
  rename_i H5 hM5 h5
  rw [ld] at h5
  have hS5 : Same G3 H5 := Same.mut hS4 hM5 hl
  refine ft_app planD numP m.2.2 ([(m.1.length : Int)] ++ m.1.flatMap numT ++ [(m.2.1.length : Int)] ++ m.2.1.flatMap numS ++ [(m.2.2.length : Int)]) 1000000 (sqt_s hS5 hdG) (DpAll.same hS5 rdG) (by simp only [List.length_append, List.length_cons, List.length_nil]; omega) (fun s σ' H' => Same G3 H' ∧ H' l = some (.lst (s.map V.int)) ∧ ∃ x3 x4 x5 x6 x7 x8 x9, σ' = [some (.ref a), some (.ref o3), some (.ref l), x3, x4, x5, x6, x7, x8, x9]) (fun s σ' H' p => ⟨sqt_s p.1 hdG, DpAll.same p.1 rdG⟩) ⟨hS5, lst_is h5 (by simp), _, _, _, _, _, _, _, rfl⟩ ?_ ?_
  · rintro s t v _ H6 ht hz hv ⟨hS6, h6, x3, x4, x5, x6, x7, x8, x9, rfl⟩
    obtain ⟨e, rfl, he⟩ := dpp hv
    have hl3 := (hok.2.2.2 t ht).1
    have hz2 : s.length ≤ 1000000 := by omega
    k_places
    rename_i H7 hM7 h7 H8 hM8 h8
    exact ⟨Same.mut (Same.mut hS6 hM7 hl) hM8 hl, lst_is h8 (by simp [numP]), _, _, _, _, _, _, _, rfl⟩
  rintro _ H6 ⟨hS6, h6, x3, x4, x5, x6, x7, x8, x9, rfl⟩
  k_places
  rename_i q H7 hq hS7 h7
  have hnum := okNum hok
  have hbl := body_len hok
  refine fl_app V.int enc (numM m) [82] 1800001 (by k_subL) (by simp only [List.length_append, List.length_cons, List.length_nil]; omega) (fun s σ' H' => Same G3 H' ∧ H' l = some (.lst ((numM m).map V.int)) ∧ H' q = some (.lst (s.map V.int)) ∧ ∃ x3 x4 x5 x6 x7 x9, σ' = [some (.ref a), some (.ref o3), some (.ref l), x3, x4, x5, x6, x7, some (.ref q), x9]) (fun s σ' H' p => SqL.of p.2.1) ⟨hS6.trans hS7, by k_subL, h7, _, _, _, _, _, _, rfl⟩ ?_ ?_
  · rintro s n _ H8 hn hz ⟨hS8, hl8, h8, x3, x4, x5, x6, x7, x9, rfl⟩
    k_places
    refine u_lgroups (hnum n hn) fun p H9 hp hS9 h9 => ?_
    k_places
    rename_i HA hMA hA
    have hlq : l ≠ q := ne_of_none h6 hq
    exact ⟨Same.mut (hS8.trans hS9) hMA (by k_memK), by k_subL, lst_is hA (by simp), _, _, _, _, _, _, rfl⟩
  rintro _ H8 ⟨hS8, hl8, h8, x3, x4, x5, x6, x7, x9, rfl⟩
  k_places
  exact k _ _ (by k_memK) (by k_offL) (lst_is (by assumption) (by simp [bytesM, bodyM]))
end
def PairN (K : PySem.W.Frag) (H : Hp) (L : Addr) (v : V) : Prop := ∃ (a b : Addr) (w : V) (m : Img), v = .ref a ∧ SqT K H a [w, .ref b] ∧ okM m ∧ Dp K H w (imgD m) ∧ H b = some (.lst ((bytesM m).map V.int)) ∧ b ≠ L
theorem PairN.same {K : PySem.W.Frag} {H H' : Hp} {L : Addr} {v : V} (h : PairN K H L v) (e : Same H H') : PairN K H' L v := by
  obtain ⟨a, b, w, m, rfl, h1, h2, h3, h4, h5⟩ := h
  exact ⟨a, b, w, m, rfl, sqt_s e h1, h2, Dp.same e h3, e _ _ h4, h5⟩
theorem PairN.mu {K : PySem.W.Frag} {H H' : Hp} {L : Addr} {v : V} (h : PairN K H L v) (e : Mu L H H') (m : Mut (H L)) : PairN K H' L v := by
  obtain ⟨a, b, w, m', rfl, h1, h2, h3, h4, h5⟩ := h
  exact ⟨a, b, w, m', rfl, sqt_m e m h1, h2, Dp.mu e m (imm_m _) h3, e.keep _ _ h5 h4, h5⟩
theorem ixN_zero {n : Nat} (h : 0 < n) : ixN n 0 = some 0 := by
  unfold ixN
  simp [h]
theorem bytes_len {m : Img} (h : okM m) : (bytesM m).length ≤ 1800002 ∧ 0 < (bytesM m).length := by
  have h2 := body_len h
  have h3 : (bytesM m).length = ((numM m).flatMap enc).length + 2 := by simp [bytesM, bodyM]
  omega
theorem dep_all {α : Type} {d : α → PyData} {c : Nat} : ∀ (ys : List α), (∀ y ∈ ys, dep (d y) ≤ c) → depAll (ys.map d) ≤ c
  | [], _ => by simp [depAll]
  | y :: ys, h => by
    have h1 := h y (List.mem_cons_self ..)
    have h2 := dep_all ys fun z hz => h z (List.mem_cons_of_mem _ hz)
    simp only [List.map_cons, depAll]
    omega
theorem wid_all {α : Type} {d : α → PyData} {c : Nat} : ∀ (ys : List α), (∀ y ∈ ys, wid (d y) ≤ c) → widAll (ys.map d) ≤ c
  | [], _ => by simp [widAll]
  | y :: ys, h => by
    have h1 := h y (List.mem_cons_self ..)
    have h2 := wid_all ys fun z hz => h z (List.mem_cons_of_mem _ hz)
    simp only [List.map_cons, widAll]
    omega
theorem dw_ints (ns : List Int) : dep (.list (ns.map PyData.int)) ≤ 2 ∧ wid (.list (ns.map PyData.int)) ≤ ns.length := by
  have h1 := dep_all (d := PyData.int) (c := 1) ns fun _ _ => by simp [dep]
  have h2 := wid_all (d := PyData.int) (c := 0) ns fun _ _ => by simp [wid]
  simp only [dep, wid, List.length_map]
  omega
theorem dw_i {i : Ins} (h : okI i) : dep (insD i) ≤ 2 ∧ wid (insD i) ≤ 300 := by
  have h1 := dep_all (d := PyData.int) (c := 1) i.2 fun _ _ => by simp [dep]
  have h2 := wid_all (d := PyData.int) (c := 0) i.2 fun _ _ => by simp [wid]
  have := okI_len h
  simp only [insD, dep, wid, depAll, widAll, List.length_cons, List.length_map]
  omega
theorem dw_s {x : Seg} (h : okS x) : dep (segD x) ≤ 4 ∧ wid (segD x) ≤ 300 := by
  have h1 := dep_all (d := insD) (c := 2) x.2 fun y hy => (dw_i (h.2.2 y hy)).1
  have h2 := wid_all (d := insD) (c := 300) x.2 fun y hy => (dw_i (h.2.2 y hy)).2
  have := h.2.1
  simp only [segD, dep, wid, depAll, widAll, List.length_cons, List.length_nil, List.length_map]
  omega
theorem dw_t {x : Tbl} (h : okT x) : dep (tabD x) ≤ 3 ∧ wid (tabD x) ≤ 300 := by
  have h1 := dep_all (d := cellD) (c := 2) x fun y hy => by simp [cellD, dep, depAll]
  have h2 := wid_all (d := cellD) (c := 2) x fun y hy => by simp [cellD, wid, widAll]
  have := h.1
  simp only [tabD, dep, wid, List.length_map]
  omega
theorem dw_p {x : List Int} (h : okP x) : dep (planD x) ≤ 2 ∧ wid (planD x) ≤ 300 := by
  have h1 := dep_all (d := PyData.int) (c := 1) x fun _ _ => by simp [dep]
  have h2 := wid_all (d := PyData.int) (c := 0) x fun _ _ => by simp [wid]
  have := h.1
  simp only [planD, dep, wid, List.length_map]
  omega
theorem dw_m {m : Img} (h : okM m) : dep (imgD m) ≤ 9 ∧ wid (imgD m) ≤ 100000000 := by
  obtain ⟨⟨a1, a2⟩, ⟨b1, b2⟩, c1, c2⟩ := h
  have h1 := dep_all (d := tabD) (c := 3) m.1 fun y hy => (dw_t (a2 y hy)).1
  have h2 := wid_all (d := tabD) (c := 300) m.1 fun y hy => (dw_t (a2 y hy)).2
  have h3 := dep_all (d := segD) (c := 4) m.2.1 fun y hy => (dw_s (b2 y hy)).1
  have h4 := wid_all (d := segD) (c := 300) m.2.1 fun y hy => (dw_s (b2 y hy)).2
  have h5 := dep_all (d := planD) (c := 2) m.2.2 fun y hy => (dw_p (c2 y hy)).1
  have h6 := wid_all (d := planD) (c := 300) m.2.2 fun y hy => (dw_p (c2 y hy)).2
  simp only [imgD, dep, wid, depAll, widAll, List.length_cons, List.length_nil, List.length_map]
  omega
theorem dw_b {m : Img} (h : okM m) : dep (.list ((bytesM m).map PyData.int)) ≤ 9 ∧ wid (.list ((bytesM m).map PyData.int)) ≤ 100000000 := by
  have h1 := dw_ints (bytesM m)
  have h2 := body_len h
  have h3 : (bytesM m).length = ((numM m).flatMap enc).length + 2 := by simp [bytesM, bodyM]
  omega
def sp_law (K : PySem.W.Frag) : Sp := Sp1 fun a H Q _ => ∃ (p : Addr) (ns : List Int), a = .ref p ∧ SqF K H p (ns.map V.int) ∧ ns.length ≤ 63 ∧ ∀ H', Q (.bl true) H'
abbrev n_law : List Str := ["script", "images", "k", "image", "due", "told", "data"]
abbrev t_law (K : PySem.W.Frag) : TS :=
    tSeq (tAsg (tLst (tNil)) (gName 1))
            (tSeq (tFor (iRng1 (tCons (tC (.int 2)) (tNil))) (gName 2) (tSeq (tAsg (tCall (sp_lw_image K) [] E0 (tCons (tCall (sp_lw_bag K) [] E0 (tCons (tVar 0) (tCons (tVar 2) (tNil)))) (tNil))) (gName 3))
            (tDrop (tBM K "list" rAppend (tVar 1) (tCons (tTup (tCons (tVar 3) (tCons (tCall (sp_lw_bytes K) [] E0 (tCons (tVar 3) (tNil))) (tNil)))) (tNil))))))
            (tSeq (tFor (iRng1 (tCons (tC (.int 2)) (tNil))) (gName 2) (tSeq (tAsg (tOp (rIxT K) (tOp (rIxL K) (tVar 1) (tVar 2)) (tC (.int 0))) (gName 3))
            (tSeq (tAsg (tOp (rIxT K) (tOp (rIxL K) (tVar 1) (tVar 2)) (tC (.int 1))) (gName 4))
            (tSeq (tAsg (tCall (sp_pack_image K) [] E0 (tCons (tVar 3) (tNil))) (gName 5))
            (tSeq (tIfS (tNot (tB (tCall (sp_lw_same K 9) [] E0 (tCons (tVar 5) (tCons (tVar 4) (tNil)))))) (tRet (tC (.bl false))) (tNext))
            (tSeq (tDrop (tBM K "list" rAppend (tVar 5) (tCons (tC (.int 7)) (tNil))))
            (tSeq (tAsg (tC (.int 3)) (gSub (tVar 5) (tC (.int 0)) rSetL))
            (tSeq (tIfS (tNot (tB (tCall (sp_lw_same K 9) [] E0 (tCons (tCall (sp_pack_image K) [] E0 (tCons (tVar 3) (tNil))) (tCons (tVar 4) (tNil)))))) (tRet (tC (.bl false))) (tNext))
            (tSeq (tAsg (tCB (rListOf K) (tCons (tVar 4) (tNil))) (gName 6))
            (tSeq (tIfS (tOr (tNot (tB (tCall (sp_lw_same K 9) [] E0 (tCons (tCall (sp_unpack_image K) [] E0 (tCons (tVar 6) (tNil))) (tCons (tVar 3) (tNil)))))) (tNot (tB (tCall (sp_lw_same K 9) [] E0 (tCons (tVar 6) (tCons (tVar 4) (tNil))))))) (tRet (tC (.bl false))) (tNext))
            (tDrop (tBM K "list" rAppend (tVar 6) (tCons (tC (.int 5)) (tNil))))))))))))))
            (tRet (tAndV (tCall (sp_lw_same K 9) [] E0 (tCons (tCall (sp_pack_image K) [] E0 (tCons (tOp (rIxT K) (tOp (rIxL K) (tVar 1) (tC (.int 0))) (tC (.int 0))) (tNil))) (tCons (tOp (rIxT K) (tOp (rIxL K) (tVar 1) (tC (.int 0))) (tC (.int 1))) (tNil)))) (tCall (sp_lw_same K 9) [] E0 (tCons (tCall (sp_unpack_image K) [] E0 (tCons (tCB (rListOf K) (tCons (tOp (rIxT K) (tOp (rIxL K) (tVar 1) (tC (.int 0))) (tC (.int 1))) (tNil))) (tNil))) (tCons (tOp (rIxT K) (tOp (rIxL K) (tVar 1) (tC (.int 0))) (tC (.int 0))) (tNil))))))))

section
variable {K : PySem.W.Frag} {vs : List V} {H : Hp} {Q : VK} {E : XK}
theorem u_sameB {a b : Addr} {m : Img} (h : okM m) (ha : H a = some (.lst ((bytesM m).map V.int))) (hb : H b = some (.lst ((bytesM m).map V.int))) (k : Q (.bl true) H) : sp_lw_same K 9 [.ref a, .ref b] H Q E :=
  u_same (n := 8) (.lst (SqL.of ha) (DpAll.ints _)) (.lst (SqL.of hb) (DpAll.ints _)) (dw_b h).1 (dw_b h).2 k
theorem u_sameM {a b : V} {m : Img} (h : okM m) (ha : Dp K H a (imgD m)) (hb : Dp K H b (imgD m)) (k : Q (.bl true) H) : sp_lw_same K 9 [a, b] H Q E := u_same (n := 8) ha hb (dw_m h).1 (dw_m h).2 k
theorem rd_law (C : CF K) (h : sp_law K vs H Q E) : t_law K { nx := fun _ H' => Q .non H', rt := Q } (start n_law vs) H := by
  obtain ⟨_, rfl, p, ns, rfl, hl, hn, k⟩ := h
  show t_law K _ [some (.ref p), none, none, none, none, none, none] H
  k_places
  rename_i L H1 hL hS1 h1
  refine fr0_use (fun i σ' H' => Same H H' ∧ ∃ (us : List V) (x y : Option V), σ' = [some (.ref p), some (.ref L), x, y, none, none, none] ∧ H' L = some (.lst us) ∧ us.length = i ∧ i ≤ 2 ∧ ∀ v ∈ us, PairN K H' L v) ⟨hS1, [], _, _, rfl, h1, rfl, by omega, fun v h => by cases h⟩ ?_ ?_
  · rintro i _ H2 hi ⟨hS2, us, x, y, rfl, h2, hul, hi2, hus⟩
    k_places
    rename_i q H3 hq hS3 hB3
    refine u_image hB3 fun v m H4 hok hM4 hB4 hv => ?_
    have h4 : H4 L = some (.lst us) := hM4.keep _ _ (ne_of_none h2 hq) (hS3 _ _ h2)
    have hS24 : Same H2 H4 := Same.mut hS3 hM4 hq
    k_places
    refine u_lbytes hok hv fun b H5 hb hS5 h5 => ?_
    have hbL : b ≠ L := Ne.symm (ne_of_none h4 hb)
    k_places
    rename_i t H6 ht hS6 h6 H7 hM7 h7
    have hS26 := (hS24.trans hS5).trans hS6
    have m6 := mut_l (hS26 _ _ h2)
    refine ⟨Same.mut (hS2.trans hS26) hM7 hL, _, _, _, rfl, h7, by simp; omega, by omega, fun u hu => ?_⟩
    rcases List.mem_append.mp hu with hu | hu
    · exact ((hus u hu).same hS26).mu hM7 m6
    · simp at hu
      subst hu
      exact PairN.mu ⟨t, b, v, m, rfl, SqT.of h6, hok, Dp.same (hS5.trans hS6) hv, hS6 _ _ h5, hbL⟩ hM7 m6
  rintro _ H2 ⟨hS2, us, x, y, rfl, h2, hul, -, hus⟩
  have hul2 : us.length = 2 := hul
  k_places
  refine fr0_use (fun i σ' H' => Same H2 H' ∧ ∃ (x2 x3 x4 x5 x6 : Option V), σ' = [some (.ref p), some (.ref L), x2, x3, x4, x5, x6]) ⟨Same.refl _, _, _, _, _, _, rfl⟩ ?_ ?_
  · rintro i _ H3 hi ⟨hS3, x2, x3, x4, x5, x6, rfl⟩
    have hi' : i < us.length := by rw [hul2]; exact hi
    obtain ⟨a, b, w, m, e, ha, hok, hw, hb, hbL⟩ := (hus us[i] (List.getElem_mem hi')).same hS3
    have a1 : atI us (i : Int) = some (.ref a) := atI_nat (by rw [List.getElem?_eq_getElem hi', e])
    have h3 : H3 L = some (.lst us) := hS3 _ _ h2
    obtain ⟨bl, b0⟩ := bytes_len hok
    k_places
    refine u_pack hok hw fun told H4 ht4 hS4 h4 => ?_
    k_places
    refine u_sameB hok h4 (by k_subL) ?_
    k_places
    rename_i H5 hM5 h5
    refine c_setL h5 (j := 0) (ixN_zero (by simp)) (fun H6 hM6 h6 => ?_)
    have hS36 : Same H3 H6 := Same.mut (Same.mut hS4 hM5 ht4) hM6 ht4
    k_places
    refine u_pack hok (Dp.same hS36 hw) fun told2 H7 ht7 hS7 h7 => ?_
    have hS37 := hS36.trans hS7
    k_places
    refine u_sameB hok h7 (hS37 _ _ hb) ?_
    k_places
    rename_i d H8 hd8 hS8 h8
    refine u_unpack hok h8 fun v H9 hS9 hv => ?_
    have hS39 := (hS37.trans hS8).trans hS9
    have h9 := hS9 _ _ h8
    k_places
    refine u_sameM hok hv (Dp.same hS39 hw) ?_
    k_places
    refine u_sameB hok (hS9 _ _ h8) (hS39 _ _ hb) ?_
    k_places
    rename_i HA hMA hA
    exact ⟨Same.mut (hS3.trans hS39) hMA ((hS3.trans hS37).free hd8), _, _, _, _, _, rfl⟩
  · rintro _ H3 ⟨hS3, x2, x3, x4, x5, x6, rfl⟩
    have hi' : 0 < us.length := by rw [hul2]; decide
    obtain ⟨a, b, w, m, e, ha, hok, hw, hb, hbL⟩ := (hus us[0] (List.getElem_mem hi')).same hS3
    have a1 : atI us 0 = some (.ref a) := atI_nat (j := 0) (by rw [List.getElem?_eq_getElem hi', e])
    have h3 : H3 L = some (.lst us) := hS3 _ _ h2
    k_places
    refine u_pack hok hw fun told H4 ht4 hS4 h4 => ?_
    k_places
    refine u_sameB hok h4 (hS4 _ _ hb) ?_
    k_places
    rename_i d H8 hd8 hS8 h8
    refine u_unpack hok h8 fun v H9 hS9 hv => ?_
    k_places
    refine u_sameM hok hv (Dp.same ((hS4.trans hS8).trans hS9) hw) ?_
    exact k _
end
end R
namespace R
open PySem PySem.Spec PyProof.Rows L2
/-! ### the head's hook: facts, defs, tables with text keys, one more Bool -/
open He in
def obsRG (n : Nat) (fa : List Fa) (fn : List DefD) (ts : List Tab) (xb : PySem.W.Frag → Bool) (g : Addr → Option Obj) : AlT × Bool := (obsT fa fn ts (frG g (asD g n)), xb (frG g (asD g n)))
open He in
def hookR (n : Nat) (fa : List Fa) (fn : List DefD) (ts : List Tab) (xb : PySem.W.Frag → Bool) : PySem.W.Hook where
  α := AlT × Bool
  obs := fun s => obsRG n fa fn ts xb s.heap.get?
  val := fun w => (valT fn ts w, true)
  says := fun w h => ∃ K : PySem.W.Frag, K.In h ∧ SaysT fa fn ts w K ∧ xb K = true
  of := fun _ _ e => ⟨_, frG_in, congrArg Prod.fst e, congrArg Prod.snd e⟩
  keeps := fun _ _ _ ⟨K, hK, c⟩ k => ⟨K, PySem.W.Frag.In.keeps hK k, c⟩
theorem obsRG_eq {n : Nat} {fa : List He.Fa} {fn : List He.DefD} {ts : List He.Tab} {xb : PySem.W.Frag → Bool} {g : Addr → Option Obj} {s : Shared} (h : ∀ a, g a = s.heap.get? a) : obsRG n fa fn ts xb g = (hookR n fa fn ts xb).obs s := by
  have e : g = s.heap.get? := funext h
  rw [e] <;> rfl
end R
namespace R
open PySem PySem.Spec PyProof.Rows L2
def top (i : Nat) : Stmt := PySem.Challenge.pw_rungstead_k48_bytes_and_back.main.body.getD i (.Pass ⟨0, 0, 0, 0⟩)
abbrev s_argument_count : Stmt := top 3
theorem sc_argument_count : FnScope n_argument_count ["name"] (defScope s_argument_count) := ⟨rfl, rfl, rfl, by decide +kernel, rfl, by decide +kernel, by decide +kernel⟩

abbrev s_groups : Stmt := top 9
theorem sc_groups : FnScope n_groups ["number"] (defScope s_groups) := ⟨rfl, rfl, rfl, by decide +kernel, rfl, by decide +kernel, by decide +kernel⟩

abbrev s_table_numbers : Stmt := top 10
theorem sc_table_numbers : FnScope n_table_numbers ["table"] (defScope s_table_numbers) := ⟨rfl, rfl, rfl, by decide +kernel, rfl, by decide +kernel, by decide +kernel⟩

abbrev s_segment_numbers : Stmt := top 11
theorem sc_segment_numbers : FnScope n_segment_numbers ["segment"] (defScope s_segment_numbers) := ⟨rfl, rfl, rfl, by decide +kernel, rfl, by decide +kernel, by decide +kernel⟩

abbrev s_pack_image : Stmt := top 12
theorem sc_pack_image : FnScope n_pack_image ["image"] (defScope s_pack_image) := ⟨rfl, rfl, rfl, by decide +kernel, rfl, by decide +kernel, by decide +kernel⟩

abbrev s_Readeru_initu : Stmt := inClass (top 13) 0
theorem sc_Readeru_initu : FnScope n_Readeru_initu ["self", "data"] (defScope s_Readeru_initu) := ⟨rfl, rfl, rfl, by decide +kernel, rfl, by decide +kernel, by decide +kernel⟩

abbrev s_Reader_next_byte : Stmt := inClass (top 13) 1
theorem sc_Reader_next_byte : FnScope n_Reader_next_byte ["self"] (defScope s_Reader_next_byte) := ⟨rfl, rfl, rfl, by decide +kernel, rfl, by decide +kernel, by decide +kernel⟩

abbrev s_Reader_next_number : Stmt := inClass (top 13) 2
theorem sc_Reader_next_number : FnScope n_Reader_next_number ["self"] (defScope s_Reader_next_number) := ⟨rfl, rfl, rfl, by decide +kernel, rfl, by decide +kernel, by decide +kernel⟩

abbrev s_Reader_next_numbers : Stmt := inClass (top 13) 3
theorem sc_Reader_next_numbers : FnScope n_Reader_next_numbers ["self"] (defScope s_Reader_next_numbers) := ⟨rfl, rfl, rfl, by decide +kernel, rfl, by decide +kernel, by decide +kernel⟩

abbrev s_Reader_next_cell : Stmt := inClass (top 13) 4
theorem sc_Reader_next_cell : FnScope n_Reader_next_cell ["self"] (defScope s_Reader_next_cell) := ⟨rfl, rfl, rfl, by decide +kernel, rfl, by decide +kernel, by decide +kernel⟩

abbrev s_Reader_next_table : Stmt := inClass (top 13) 5
theorem sc_Reader_next_table : FnScope n_Reader_next_table ["self"] (defScope s_Reader_next_table) := ⟨rfl, rfl, rfl, by decide +kernel, rfl, by decide +kernel, by decide +kernel⟩

abbrev s_Reader_next_instruction : Stmt := inClass (top 13) 6
theorem sc_Reader_next_instruction : FnScope n_Reader_next_instruction ["self"] (defScope s_Reader_next_instruction) := ⟨rfl, rfl, rfl, by decide +kernel, rfl, by decide +kernel, by decide +kernel⟩

abbrev s_Reader_next_segment : Stmt := inClass (top 13) 7
theorem sc_Reader_next_segment : FnScope n_Reader_next_segment ["self"] (defScope s_Reader_next_segment) := ⟨rfl, rfl, rfl, by decide +kernel, rfl, by decide +kernel, by decide +kernel⟩

abbrev s_unpack_image : Stmt := top 14
theorem sc_unpack_image : FnScope n_unpack_image ["data"] (defScope s_unpack_image) := ⟨rfl, rfl, rfl, by decide +kernel, rfl, by decide +kernel, by decide +kernel⟩

abbrev s_lw_bag : Stmt := top 16
theorem sc_lw_bag : FnScope n_lw_bag ["script", "at"] (defScope s_lw_bag) := ⟨rfl, rfl, rfl, by decide +kernel, rfl, by decide +kernel, by decide +kernel⟩

abbrev s_lw_take : Stmt := top 17
theorem sc_lw_take : FnScope n_lw_take ["bag", "many"] (defScope s_lw_take) := ⟨rfl, rfl, rfl, by decide +kernel, rfl, by decide +kernel, by decide +kernel⟩

abbrev s_lw_pick : Stmt := top 18
theorem sc_lw_pick : FnScope n_lw_pick ["bag", "menu"] (defScope s_lw_pick) := ⟨rfl, rfl, rfl, by decide +kernel, rfl, by decide +kernel, by decide +kernel⟩

abbrev s_lw_size : Stmt := top 19
theorem sc_lw_size : FnScope n_lw_size ["bag"] (defScope s_lw_size) := ⟨rfl, rfl, rfl, by decide +kernel, rfl, by decide +kernel, by decide +kernel⟩

abbrev s_lw_thing : Stmt := top 20
theorem sc_lw_thing : FnScope n_lw_thing ["bag", "kind"] (defScope s_lw_thing) := ⟨rfl, rfl, rfl, by decide +kernel, rfl, by decide +kernel, by decide +kernel⟩

abbrev s_lw_row : Stmt := top 21
theorem sc_lw_row : FnScope n_lw_row ["bag", "kind", "large", "most"] (defScope s_lw_row) := ⟨rfl, rfl, rfl, by decide +kernel, rfl, by decide +kernel, by decide +kernel⟩

abbrev s_lw_rows : Stmt := top 22
theorem sc_lw_rows : FnScope n_lw_rows ["bag", "kind", "large"] (defScope s_lw_rows) := ⟨rfl, rfl, rfl, by decide +kernel, rfl, by decide +kernel, by decide +kernel⟩

abbrev s_lw_image : Stmt := top 23
theorem sc_lw_image : FnScope n_lw_image ["bag"] (defScope s_lw_image) := ⟨rfl, rfl, rfl, by decide +kernel, rfl, by decide +kernel, by decide +kernel⟩

abbrev s_lw_groups : Stmt := top 24
theorem sc_lw_groups : FnScope n_lw_groups ["n"] (defScope s_lw_groups) := ⟨rfl, rfl, rfl, by decide +kernel, rfl, by decide +kernel, by decide +kernel⟩

abbrev s_lw_bytes : Stmt := top 25
theorem sc_lw_bytes : FnScope n_lw_bytes ["image"] (defScope s_lw_bytes) := ⟨rfl, rfl, rfl, by decide +kernel, rfl, by decide +kernel, by decide +kernel⟩

abbrev s_lw_same : Stmt := top 26
theorem sc_lw_same : FnScope n_lw_same ["got", "due"] (defScope s_lw_same) := ⟨rfl, rfl, rfl, by decide +kernel, rfl, by decide +kernel, by decide +kernel⟩

abbrev s_law : Stmt := top 27
theorem sc_law : FnScope n_law ["script"] (defScope s_law) := ⟨rfl, rfl, rfl, by decide +kernel, rfl, by decide +kernel, by decide +kernel⟩

abbrev d_argument_count : He.DefD := ⟨("argument_count", none), "argument_count", "argument_count", defArgs s_argument_count, defBody s_argument_count, defScope s_argument_count, [], []⟩

abbrev d_groups : He.DefD := ⟨("groups", none), "groups", "groups", defArgs s_groups, defBody s_groups, defScope s_groups, [], []⟩

abbrev d_table_numbers : He.DefD := ⟨("table_numbers", none), "table_numbers", "table_numbers", defArgs s_table_numbers, defBody s_table_numbers, defScope s_table_numbers, [], []⟩

abbrev d_segment_numbers : He.DefD := ⟨("segment_numbers", none), "segment_numbers", "segment_numbers", defArgs s_segment_numbers, defBody s_segment_numbers, defScope s_segment_numbers, [], []⟩

abbrev d_pack_image : He.DefD := ⟨("pack_image", none), "pack_image", "pack_image", defArgs s_pack_image, defBody s_pack_image, defScope s_pack_image, [], []⟩

abbrev d_Readeru_initu : He.DefD := ⟨("Reader", some "__init__"), "__init__", "Reader.__init__", defArgs s_Readeru_initu, defBody s_Readeru_initu, defScope s_Readeru_initu, [], []⟩

abbrev d_Reader_next_byte : He.DefD := ⟨("Reader", some "next_byte"), "next_byte", "Reader.next_byte", defArgs s_Reader_next_byte, defBody s_Reader_next_byte, defScope s_Reader_next_byte, [], []⟩

abbrev d_Reader_next_number : He.DefD := ⟨("Reader", some "next_number"), "next_number", "Reader.next_number", defArgs s_Reader_next_number, defBody s_Reader_next_number, defScope s_Reader_next_number, [], []⟩

abbrev d_Reader_next_numbers : He.DefD := ⟨("Reader", some "next_numbers"), "next_numbers", "Reader.next_numbers", defArgs s_Reader_next_numbers, defBody s_Reader_next_numbers, defScope s_Reader_next_numbers, [], []⟩

abbrev d_Reader_next_cell : He.DefD := ⟨("Reader", some "next_cell"), "next_cell", "Reader.next_cell", defArgs s_Reader_next_cell, defBody s_Reader_next_cell, defScope s_Reader_next_cell, [], []⟩

abbrev d_Reader_next_table : He.DefD := ⟨("Reader", some "next_table"), "next_table", "Reader.next_table", defArgs s_Reader_next_table, defBody s_Reader_next_table, defScope s_Reader_next_table, [], []⟩

abbrev d_Reader_next_instruction : He.DefD := ⟨("Reader", some "next_instruction"), "next_instruction", "Reader.next_instruction", defArgs s_Reader_next_instruction, defBody s_Reader_next_instruction, defScope s_Reader_next_instruction, [], []⟩

abbrev d_Reader_next_segment : He.DefD := ⟨("Reader", some "next_segment"), "next_segment", "Reader.next_segment", defArgs s_Reader_next_segment, defBody s_Reader_next_segment, defScope s_Reader_next_segment, [], []⟩

abbrev d_unpack_image : He.DefD := ⟨("unpack_image", none), "unpack_image", "unpack_image", defArgs s_unpack_image, defBody s_unpack_image, defScope s_unpack_image, [], []⟩

abbrev d_lw_bag : He.DefD := ⟨("_law_bag", none), "_law_bag", "_law_bag", defArgs s_lw_bag, defBody s_lw_bag, defScope s_lw_bag, [], []⟩

abbrev d_lw_take : He.DefD := ⟨("_law_take", none), "_law_take", "_law_take", defArgs s_lw_take, defBody s_lw_take, defScope s_lw_take, [], []⟩

abbrev d_lw_pick : He.DefD := ⟨("_law_pick", none), "_law_pick", "_law_pick", defArgs s_lw_pick, defBody s_lw_pick, defScope s_lw_pick, [], []⟩

abbrev d_lw_size : He.DefD := ⟨("_law_size", none), "_law_size", "_law_size", defArgs s_lw_size, defBody s_lw_size, defScope s_lw_size, [], []⟩

abbrev d_lw_thing : He.DefD := ⟨("_law_thing", none), "_law_thing", "_law_thing", defArgs s_lw_thing, defBody s_lw_thing, defScope s_lw_thing, [], []⟩

abbrev d_lw_row : He.DefD := ⟨("_law_row", none), "_law_row", "_law_row", defArgs s_lw_row, defBody s_lw_row, defScope s_lw_row, [], []⟩

abbrev d_lw_rows : He.DefD := ⟨("_law_rows", none), "_law_rows", "_law_rows", defArgs s_lw_rows, defBody s_lw_rows, defScope s_lw_rows, [], []⟩

abbrev d_lw_image : He.DefD := ⟨("_law_image", none), "_law_image", "_law_image", defArgs s_lw_image, defBody s_lw_image, defScope s_lw_image, [], []⟩

abbrev d_lw_groups : He.DefD := ⟨("_law_groups", none), "_law_groups", "_law_groups", defArgs s_lw_groups, defBody s_lw_groups, defScope s_lw_groups, [], []⟩

abbrev d_lw_bytes : He.DefD := ⟨("_law_bytes", none), "_law_bytes", "_law_bytes", defArgs s_lw_bytes, defBody s_lw_bytes, defScope s_lw_bytes, [], []⟩

abbrev d_lw_same : He.DefD := ⟨("_law_same", none), "_law_same", "_law_same", defArgs s_lw_same, defBody s_lw_same, defScope s_lw_same, [], []⟩

abbrev d_law : He.DefD := ⟨("law", none), "law", "law", defArgs s_law, defBody s_law, defScope s_law, [], []⟩

def fn : List He.DefD := [d_argument_count, d_groups, d_table_numbers, d_segment_numbers, d_pack_image, d_Readeru_initu, d_Reader_next_byte, d_Reader_next_number, d_Reader_next_numbers, d_Reader_next_cell, d_Reader_next_table, d_Reader_next_instruction, d_Reader_next_segment, d_unpack_image, d_lw_bag, d_lw_take, d_lw_pick, d_lw_size, d_lw_thing, d_lw_row, d_lw_rows, d_lw_image, d_lw_groups, d_lw_bytes, d_lw_same, d_law]
def fa : List He.Fa := [.glo "ARGUMENTS", .free "len", .glo "OPERATIONS", .glo "table_numbers", .glo "segment_numbers", .free "list", .int "HEAD" 82, .glo "groups", .free "sum", .cls "Reader", .noat "Reader" "data", .noat "Reader" "place", .noat "Reader" "end", .free "range", .meth "Reader" "next_byte", .meth "Reader" "next_number", .free "tuple", .meth "Reader" "next_cell", .glo "argument_count", .meth "Reader" "next_instruction", .mkr "Reader", .glo "Reader", .meth "Reader" "next_table", .meth "Reader" "next_segment", .meth "Reader" "next_numbers", .free "int", .glo "_law_take", .glo "_law_pick", .glo "_law_size", .glo "_law_thing", .glo "_law_row", .glo "_law_rows", .glo "_law_groups", .free "isinstance", .glo "_law_same", .free "bool", .free "str", .glo "_law_bag", .glo "_law_image", .glo "_law_bytes", .glo "pack_image", .glo "unpack_image", .glo "law"]
def ts : List He.Tab := [((fun K => He.ga K "ARGUMENTS"), ["num", "get", "put", "pick", "hop", "hopno", "call", "beat"])]
def xb0 (K : PySem.W.Frag) : Bool := He.valsB K (He.ga K "ARGUMENTS") [("num", .int 1), ("get", .int 1), ("put", .int 1), ("pick", .int 1), ("hop", .int 1), ("hopno", .int 1), ("call", .int 2), ("beat", .int 1)]
def xb1 (K : PySem.W.Frag) : Bool := (["pace", "dup", "drop", "bit", "not", "add", "sub", "mul", "min", "max", "lt", "le", "eq", "ne", "ge", "gt", "back"] : List Str).all fun s => He.eqO (PySem.W.nsIn K (He.ga K "ARGUMENTS") s) (some none)
def xb2 (K : PySem.W.Frag) : Bool := He.tupB K "OPERATIONS" [.str "num", .str "get", .str "put", .str "pace", .str "pick", .str "dup", .str "drop", .str "bit", .str "not", .str "add", .str "sub", .str "mul", .str "min", .str "max", .str "lt", .str "le", .str "eq", .str "ne", .str "ge", .str "gt", .str "hop", .str "hopno", .str "call", .str "beat", .str "back"]
def xb3 (K : PySem.W.Frag) : Bool := tupKB K (He.ga K "OPERATIONS")
def xb (K : PySem.W.Frag) : Bool := xb0 K && (xb1 K && (xb2 K && (xb3 K && (true))))
/-- what the top has left -/
structure Tx (w : World) (K : PySem.W.Frag) (mg : Str → Option Value) : Prop where
  ex : ∃ h : Heap, K.In h ∧ h.Ns mainGlobals mg
  c : He.SaysD fa fn K
  x : xb K = true
  kx_ARGUMENTS : ∃ es n, KDict K w (He.ga K "ARGUMENTS") es n
section
variable {K : PySem.W.Frag} {mg : Str → Option Value} {w : World}
theorem xq0 (T : Tx w K mg) : xb0 K = true := (Bool.and_eq_true_iff.mp T.x).1
theorem xq1 (T : Tx w K mg) : xb1 K = true := (Bool.and_eq_true_iff.mp (Bool.and_eq_true_iff.mp T.x).2).1
theorem xq2 (T : Tx w K mg) : xb2 K = true := (Bool.and_eq_true_iff.mp (Bool.and_eq_true_iff.mp (Bool.and_eq_true_iff.mp T.x).2).2).1
theorem xq3 (T : Tx w K mg) : xb3 K = true := (Bool.and_eq_true_iff.mp (Bool.and_eq_true_iff.mp (Bool.and_eq_true_iff.mp (Bool.and_eq_true_iff.mp T.x).2).2).2).1
theorem kd_ARGUMENTS (T : Tx w K mg) : ∀ s z v, (s, v) ∈ ([("num", .int 1), ("get", .int 1), ("put", .int 1), ("pick", .int 1), ("hop", .int 1), ("hopno", .int 1), ("call", .int 2), ("beat", .int 1)] : List (Str × V)) ∨ (s ∈ (["pace", "dup", "drop", "bit", "not", "add", "sub", "mul", "min", "max", "lt", "le", "eq", "ne", "ge", "gt", "back"] : List Str) ∧ v = z) → rKd K (He.ga K "ARGUMENTS") s z v := by
  have h1 := @He.valsB_ok _ _ _ (xq0 T)
  have h2 := List.all_eq_true.mp (xq1 T)
  rintro s z v (h | ⟨h, rfl⟩)
  · obtain ⟨d, hd, hv⟩ : ∃ d : He.Dv, (s, d) ∈ ([("num", .int 1), ("get", .int 1), ("put", .int 1), ("pick", .int 1), ("hop", .int 1), ("hopno", .int 1), ("call", .int 2), ("beat", .int 1)] : List (Str × He.Dv)) ∧ d.v K = v := by
      simp only [List.mem_cons, Prod.mk.injEq, List.not_mem_nil, or_false] at h ⊢
      rcases h with ⟨rfl, rfl⟩ | ⟨rfl, rfl⟩ | ⟨rfl, rfl⟩ | ⟨rfl, rfl⟩ | ⟨rfl, rfl⟩ | ⟨rfl, rfl⟩ | ⟨rfl, rfl⟩ | ⟨rfl, rfl⟩ <;> first | exact ⟨_, .inl ⟨rfl, rfl⟩, rfl⟩ | exact ⟨_, .inr (.inl ⟨rfl, rfl⟩), rfl⟩ | exact ⟨_, .inr (.inr (.inl ⟨rfl, rfl⟩)), rfl⟩ | exact ⟨_, .inr (.inr (.inr (.inl ⟨rfl, rfl⟩))), rfl⟩ | exact ⟨_, .inr (.inr (.inr (.inr (.inl ⟨rfl, rfl⟩)))), rfl⟩ | exact ⟨_, .inr (.inr (.inr (.inr (.inr (.inl ⟨rfl, rfl⟩))))), rfl⟩ | exact ⟨_, .inr (.inr (.inr (.inr (.inr (.inr (.inl ⟨rfl, rfl⟩)))))), rfl⟩ | exact ⟨_, .inr (.inr (.inr (.inr (.inr (.inr (.inr (⟨rfl, rfl⟩))))))), rfl⟩ 
    obtain ⟨u, e, r⟩ := h1 hd
    exact .inr ⟨u, e, hv ▸ r⟩
  · exact .inl ⟨He.eqO_ok (h2 s h), rfl⟩
theorem tu_OPERATIONS (T : Tx w K mg) : ∀ H, SqT K H (He.ga K "OPERATIONS") [.str "num", .str "get", .str "put", .str "pace", .str "pick", .str "dup", .str "drop", .str "bit", .str "not", .str "add", .str "sub", .str "mul", .str "min", .str "max", .str "lt", .str "le", .str "eq", .str "ne", .str "ge", .str "gt", .str "hop", .str "hopno", .str "call", .str "beat", .str "back"] := fun H => He.tupB_ok (xq2 T) H
theorem ty_OPERATIONS (T : Tx w K mg) : TupK K (He.ga K "OPERATIONS") := tupKB_ok (xq3 T)
theorem g_ARGUMENTS (T : Tx w K mg) : mg "ARGUMENTS" = some (.ref (He.ga K "ARGUMENTS")) := T.ex.elim fun _ e => He.glo_ok e.1 e.2 (T.c.fact 0 rfl)
theorem b_len (T : Tx w K mg) : mg "len" = none := T.ex.elim fun _ e => He.free_ok e.1 e.2 (T.c.fact 1 rfl)
theorem g_OPERATIONS (T : Tx w K mg) : mg "OPERATIONS" = some (.ref (He.ga K "OPERATIONS")) := T.ex.elim fun _ e => He.glo_ok e.1 e.2 (T.c.fact 2 rfl)
theorem g_table_numbers (T : Tx w K mg) : mg "table_numbers" = some (.ref (He.ga K "table_numbers")) := T.ex.elim fun _ e => He.glo_ok e.1 e.2 (T.c.fact 3 rfl)
theorem g_segment_numbers (T : Tx w K mg) : mg "segment_numbers" = some (.ref (He.ga K "segment_numbers")) := T.ex.elim fun _ e => He.glo_ok e.1 e.2 (T.c.fact 4 rfl)
theorem b_list (T : Tx w K mg) : mg "list" = none := T.ex.elim fun _ e => He.free_ok e.1 e.2 (T.c.fact 5 rfl)
theorem c_HEAD (T : Tx w K mg) : ∃ t, mg "HEAD" = some (.int 82 t) := T.ex.elim fun _ e => He.int_ok e.1 e.2 (T.c.fact 6 rfl)
theorem g_groups (T : Tx w K mg) : mg "groups" = some (.ref (He.ga K "groups")) := T.ex.elim fun _ e => He.glo_ok e.1 e.2 (T.c.fact 7 rfl)
theorem b_sum (T : Tx w K mg) : mg "sum" = none := T.ex.elim fun _ e => He.free_ok e.1 e.2 (T.c.fact 8 rfl)
theorem cl_Reader (T : Tx w K mg) : Cls K (He.ga K "Reader") := He.cls_ok (T.c.fact 9 rfl)
theorem na_Reader_data (T : Tx w K mg) : NoAttr K (He.ga K "Reader") "data" := He.noat_ok (T.c.fact 10 rfl)
theorem na_Reader_place (T : Tx w K mg) : NoAttr K (He.ga K "Reader") "place" := He.noat_ok (T.c.fact 11 rfl)
theorem na_Reader_end (T : Tx w K mg) : NoAttr K (He.ga K "Reader") "end" := He.noat_ok (T.c.fact 12 rfl)
theorem b_range (T : Tx w K mg) : mg "range" = none := T.ex.elim fun _ e => He.free_ok e.1 e.2 (T.c.fact 13 rfl)
theorem me_Reader_next_byte (T : Tx w K mg) : Meth K (He.ga K "Reader") "next_byte" (He.ma K (He.ga K "Reader") "next_byte") := He.meth_ok (T.c.fact 14 rfl)
theorem me_Reader_next_number (T : Tx w K mg) : Meth K (He.ga K "Reader") "next_number" (He.ma K (He.ga K "Reader") "next_number") := He.meth_ok (T.c.fact 15 rfl)
theorem b_tuple (T : Tx w K mg) : mg "tuple" = none := T.ex.elim fun _ e => He.free_ok e.1 e.2 (T.c.fact 16 rfl)
theorem me_Reader_next_cell (T : Tx w K mg) : Meth K (He.ga K "Reader") "next_cell" (He.ma K (He.ga K "Reader") "next_cell") := He.meth_ok (T.c.fact 17 rfl)
theorem g_argument_count (T : Tx w K mg) : mg "argument_count" = some (.ref (He.ga K "argument_count")) := T.ex.elim fun _ e => He.glo_ok e.1 e.2 (T.c.fact 18 rfl)
theorem me_Reader_next_instruction (T : Tx w K mg) : Meth K (He.ga K "Reader") "next_instruction" (He.ma K (He.ga K "Reader") "next_instruction") := He.meth_ok (T.c.fact 19 rfl)
theorem mk_Reader (T : Tx w K mg) : Mk K (He.ga K "Reader") (He.ma K (He.ga K "Reader") "__init__") := He.mkr_ok (T.c.fact 20 rfl)
theorem g_Reader (T : Tx w K mg) : mg "Reader" = some (.ref (He.ga K "Reader")) := T.ex.elim fun _ e => He.glo_ok e.1 e.2 (T.c.fact 21 rfl)
theorem me_Reader_next_table (T : Tx w K mg) : Meth K (He.ga K "Reader") "next_table" (He.ma K (He.ga K "Reader") "next_table") := He.meth_ok (T.c.fact 22 rfl)
theorem me_Reader_next_segment (T : Tx w K mg) : Meth K (He.ga K "Reader") "next_segment" (He.ma K (He.ga K "Reader") "next_segment") := He.meth_ok (T.c.fact 23 rfl)
theorem me_Reader_next_numbers (T : Tx w K mg) : Meth K (He.ga K "Reader") "next_numbers" (He.ma K (He.ga K "Reader") "next_numbers") := He.meth_ok (T.c.fact 24 rfl)
theorem b_int (T : Tx w K mg) : mg "int" = none := T.ex.elim fun _ e => He.free_ok e.1 e.2 (T.c.fact 25 rfl)
theorem g_lw_take (T : Tx w K mg) : mg "_law_take" = some (.ref (He.ga K "_law_take")) := T.ex.elim fun _ e => He.glo_ok e.1 e.2 (T.c.fact 26 rfl)
theorem g_lw_pick (T : Tx w K mg) : mg "_law_pick" = some (.ref (He.ga K "_law_pick")) := T.ex.elim fun _ e => He.glo_ok e.1 e.2 (T.c.fact 27 rfl)
theorem g_lw_size (T : Tx w K mg) : mg "_law_size" = some (.ref (He.ga K "_law_size")) := T.ex.elim fun _ e => He.glo_ok e.1 e.2 (T.c.fact 28 rfl)
theorem g_lw_thing (T : Tx w K mg) : mg "_law_thing" = some (.ref (He.ga K "_law_thing")) := T.ex.elim fun _ e => He.glo_ok e.1 e.2 (T.c.fact 29 rfl)
theorem g_lw_row (T : Tx w K mg) : mg "_law_row" = some (.ref (He.ga K "_law_row")) := T.ex.elim fun _ e => He.glo_ok e.1 e.2 (T.c.fact 30 rfl)
theorem g_lw_rows (T : Tx w K mg) : mg "_law_rows" = some (.ref (He.ga K "_law_rows")) := T.ex.elim fun _ e => He.glo_ok e.1 e.2 (T.c.fact 31 rfl)
theorem g_lw_groups (T : Tx w K mg) : mg "_law_groups" = some (.ref (He.ga K "_law_groups")) := T.ex.elim fun _ e => He.glo_ok e.1 e.2 (T.c.fact 32 rfl)
theorem b_isinstance (T : Tx w K mg) : mg "isinstance" = none := T.ex.elim fun _ e => He.free_ok e.1 e.2 (T.c.fact 33 rfl)
theorem g_lw_same (T : Tx w K mg) : mg "_law_same" = some (.ref (He.ga K "_law_same")) := T.ex.elim fun _ e => He.glo_ok e.1 e.2 (T.c.fact 34 rfl)
theorem b_bool (T : Tx w K mg) : mg "bool" = none := T.ex.elim fun _ e => He.free_ok e.1 e.2 (T.c.fact 35 rfl)
theorem b_str (T : Tx w K mg) : mg "str" = none := T.ex.elim fun _ e => He.free_ok e.1 e.2 (T.c.fact 36 rfl)
theorem g_lw_bag (T : Tx w K mg) : mg "_law_bag" = some (.ref (He.ga K "_law_bag")) := T.ex.elim fun _ e => He.glo_ok e.1 e.2 (T.c.fact 37 rfl)
theorem g_lw_image (T : Tx w K mg) : mg "_law_image" = some (.ref (He.ga K "_law_image")) := T.ex.elim fun _ e => He.glo_ok e.1 e.2 (T.c.fact 38 rfl)
theorem g_lw_bytes (T : Tx w K mg) : mg "_law_bytes" = some (.ref (He.ga K "_law_bytes")) := T.ex.elim fun _ e => He.glo_ok e.1 e.2 (T.c.fact 39 rfl)
theorem g_pack_image (T : Tx w K mg) : mg "pack_image" = some (.ref (He.ga K "pack_image")) := T.ex.elim fun _ e => He.glo_ok e.1 e.2 (T.c.fact 40 rfl)
theorem g_unpack_image (T : Tx w K mg) : mg "unpack_image" = some (.ref (He.ga K "unpack_image")) := T.ex.elim fun _ e => He.glo_ok e.1 e.2 (T.c.fact 41 rfl)
theorem g_law (T : Tx w K mg) : mg "law" = some (.ref (He.ga K "law")) := T.ex.elim fun _ e => He.glo_ok e.1 e.2 (T.c.fact 42 rfl)
noncomputable def fd_argument_count (T : Tx w K mg) : FuncData := (T.c.def_ 0 (d := d_argument_count) rfl).choose
theorem F_argument_count (T : Tx w K mg) : FunD K "argument_count" "argument_count" (defArgs s_argument_count) (defBody s_argument_count) (defScope s_argument_count) [] [] (He.fAd K d_argument_count.at_) (fd_argument_count T) := (T.c.def_ 0 (d := d_argument_count) rfl).choose_spec
theorem B_argument_count (T : Tx w K mg) : Binds K (fd_argument_count T) ["name"] [] := (F_argument_count T).bindsN fun _ _ _ _ _ _ us hl => match us, hl with | [_], _ => rfl
noncomputable def fd_groups (T : Tx w K mg) : FuncData := (T.c.def_ 1 (d := d_groups) rfl).choose
theorem F_groups (T : Tx w K mg) : FunD K "groups" "groups" (defArgs s_groups) (defBody s_groups) (defScope s_groups) [] [] (He.fAd K d_groups.at_) (fd_groups T) := (T.c.def_ 1 (d := d_groups) rfl).choose_spec
theorem B_groups (T : Tx w K mg) : Binds K (fd_groups T) ["number"] [] := (F_groups T).bindsN fun _ _ _ _ _ _ us hl => match us, hl with | [_], _ => rfl
noncomputable def fd_table_numbers (T : Tx w K mg) : FuncData := (T.c.def_ 2 (d := d_table_numbers) rfl).choose
theorem F_table_numbers (T : Tx w K mg) : FunD K "table_numbers" "table_numbers" (defArgs s_table_numbers) (defBody s_table_numbers) (defScope s_table_numbers) [] [] (He.fAd K d_table_numbers.at_) (fd_table_numbers T) := (T.c.def_ 2 (d := d_table_numbers) rfl).choose_spec
theorem B_table_numbers (T : Tx w K mg) : Binds K (fd_table_numbers T) ["table"] [] := (F_table_numbers T).bindsN fun _ _ _ _ _ _ us hl => match us, hl with | [_], _ => rfl
noncomputable def fd_segment_numbers (T : Tx w K mg) : FuncData := (T.c.def_ 3 (d := d_segment_numbers) rfl).choose
theorem F_segment_numbers (T : Tx w K mg) : FunD K "segment_numbers" "segment_numbers" (defArgs s_segment_numbers) (defBody s_segment_numbers) (defScope s_segment_numbers) [] [] (He.fAd K d_segment_numbers.at_) (fd_segment_numbers T) := (T.c.def_ 3 (d := d_segment_numbers) rfl).choose_spec
theorem B_segment_numbers (T : Tx w K mg) : Binds K (fd_segment_numbers T) ["segment"] [] := (F_segment_numbers T).bindsN fun _ _ _ _ _ _ us hl => match us, hl with | [_], _ => rfl
noncomputable def fd_pack_image (T : Tx w K mg) : FuncData := (T.c.def_ 4 (d := d_pack_image) rfl).choose
theorem F_pack_image (T : Tx w K mg) : FunD K "pack_image" "pack_image" (defArgs s_pack_image) (defBody s_pack_image) (defScope s_pack_image) [] [] (He.fAd K d_pack_image.at_) (fd_pack_image T) := (T.c.def_ 4 (d := d_pack_image) rfl).choose_spec
theorem B_pack_image (T : Tx w K mg) : Binds K (fd_pack_image T) ["image"] [] := (F_pack_image T).bindsN fun _ _ _ _ _ _ us hl => match us, hl with | [_], _ => rfl
noncomputable def fd_Readeru_initu (T : Tx w K mg) : FuncData := (T.c.def_ 5 (d := d_Readeru_initu) rfl).choose
theorem F_Readeru_initu (T : Tx w K mg) : FunD K "__init__" "Reader.__init__" (defArgs s_Readeru_initu) (defBody s_Readeru_initu) (defScope s_Readeru_initu) [] [] (He.fAd K d_Readeru_initu.at_) (fd_Readeru_initu T) := (T.c.def_ 5 (d := d_Readeru_initu) rfl).choose_spec
theorem B_Readeru_initu (T : Tx w K mg) : Binds K (fd_Readeru_initu T) ["self", "data"] [] := (F_Readeru_initu T).bindsN fun _ _ _ _ _ _ us hl => match us, hl with | [_, _], _ => rfl
noncomputable def fd_Reader_next_byte (T : Tx w K mg) : FuncData := (T.c.def_ 6 (d := d_Reader_next_byte) rfl).choose
theorem F_Reader_next_byte (T : Tx w K mg) : FunD K "next_byte" "Reader.next_byte" (defArgs s_Reader_next_byte) (defBody s_Reader_next_byte) (defScope s_Reader_next_byte) [] [] (He.fAd K d_Reader_next_byte.at_) (fd_Reader_next_byte T) := (T.c.def_ 6 (d := d_Reader_next_byte) rfl).choose_spec
theorem B_Reader_next_byte (T : Tx w K mg) : Binds K (fd_Reader_next_byte T) ["self"] [] := (F_Reader_next_byte T).bindsN fun _ _ _ _ _ _ us hl => match us, hl with | [_], _ => rfl
noncomputable def fd_Reader_next_number (T : Tx w K mg) : FuncData := (T.c.def_ 7 (d := d_Reader_next_number) rfl).choose
theorem F_Reader_next_number (T : Tx w K mg) : FunD K "next_number" "Reader.next_number" (defArgs s_Reader_next_number) (defBody s_Reader_next_number) (defScope s_Reader_next_number) [] [] (He.fAd K d_Reader_next_number.at_) (fd_Reader_next_number T) := (T.c.def_ 7 (d := d_Reader_next_number) rfl).choose_spec
theorem B_Reader_next_number (T : Tx w K mg) : Binds K (fd_Reader_next_number T) ["self"] [] := (F_Reader_next_number T).bindsN fun _ _ _ _ _ _ us hl => match us, hl with | [_], _ => rfl
noncomputable def fd_Reader_next_numbers (T : Tx w K mg) : FuncData := (T.c.def_ 8 (d := d_Reader_next_numbers) rfl).choose
theorem F_Reader_next_numbers (T : Tx w K mg) : FunD K "next_numbers" "Reader.next_numbers" (defArgs s_Reader_next_numbers) (defBody s_Reader_next_numbers) (defScope s_Reader_next_numbers) [] [] (He.fAd K d_Reader_next_numbers.at_) (fd_Reader_next_numbers T) := (T.c.def_ 8 (d := d_Reader_next_numbers) rfl).choose_spec
theorem B_Reader_next_numbers (T : Tx w K mg) : Binds K (fd_Reader_next_numbers T) ["self"] [] := (F_Reader_next_numbers T).bindsN fun _ _ _ _ _ _ us hl => match us, hl with | [_], _ => rfl
noncomputable def fd_Reader_next_cell (T : Tx w K mg) : FuncData := (T.c.def_ 9 (d := d_Reader_next_cell) rfl).choose
theorem F_Reader_next_cell (T : Tx w K mg) : FunD K "next_cell" "Reader.next_cell" (defArgs s_Reader_next_cell) (defBody s_Reader_next_cell) (defScope s_Reader_next_cell) [] [] (He.fAd K d_Reader_next_cell.at_) (fd_Reader_next_cell T) := (T.c.def_ 9 (d := d_Reader_next_cell) rfl).choose_spec
theorem B_Reader_next_cell (T : Tx w K mg) : Binds K (fd_Reader_next_cell T) ["self"] [] := (F_Reader_next_cell T).bindsN fun _ _ _ _ _ _ us hl => match us, hl with | [_], _ => rfl
noncomputable def fd_Reader_next_table (T : Tx w K mg) : FuncData := (T.c.def_ 10 (d := d_Reader_next_table) rfl).choose
theorem F_Reader_next_table (T : Tx w K mg) : FunD K "next_table" "Reader.next_table" (defArgs s_Reader_next_table) (defBody s_Reader_next_table) (defScope s_Reader_next_table) [] [] (He.fAd K d_Reader_next_table.at_) (fd_Reader_next_table T) := (T.c.def_ 10 (d := d_Reader_next_table) rfl).choose_spec
theorem B_Reader_next_table (T : Tx w K mg) : Binds K (fd_Reader_next_table T) ["self"] [] := (F_Reader_next_table T).bindsN fun _ _ _ _ _ _ us hl => match us, hl with | [_], _ => rfl
noncomputable def fd_Reader_next_instruction (T : Tx w K mg) : FuncData := (T.c.def_ 11 (d := d_Reader_next_instruction) rfl).choose
theorem F_Reader_next_instruction (T : Tx w K mg) : FunD K "next_instruction" "Reader.next_instruction" (defArgs s_Reader_next_instruction) (defBody s_Reader_next_instruction) (defScope s_Reader_next_instruction) [] [] (He.fAd K d_Reader_next_instruction.at_) (fd_Reader_next_instruction T) := (T.c.def_ 11 (d := d_Reader_next_instruction) rfl).choose_spec
theorem B_Reader_next_instruction (T : Tx w K mg) : Binds K (fd_Reader_next_instruction T) ["self"] [] := (F_Reader_next_instruction T).bindsN fun _ _ _ _ _ _ us hl => match us, hl with | [_], _ => rfl
noncomputable def fd_Reader_next_segment (T : Tx w K mg) : FuncData := (T.c.def_ 12 (d := d_Reader_next_segment) rfl).choose
theorem F_Reader_next_segment (T : Tx w K mg) : FunD K "next_segment" "Reader.next_segment" (defArgs s_Reader_next_segment) (defBody s_Reader_next_segment) (defScope s_Reader_next_segment) [] [] (He.fAd K d_Reader_next_segment.at_) (fd_Reader_next_segment T) := (T.c.def_ 12 (d := d_Reader_next_segment) rfl).choose_spec
theorem B_Reader_next_segment (T : Tx w K mg) : Binds K (fd_Reader_next_segment T) ["self"] [] := (F_Reader_next_segment T).bindsN fun _ _ _ _ _ _ us hl => match us, hl with | [_], _ => rfl
noncomputable def fd_unpack_image (T : Tx w K mg) : FuncData := (T.c.def_ 13 (d := d_unpack_image) rfl).choose
theorem F_unpack_image (T : Tx w K mg) : FunD K "unpack_image" "unpack_image" (defArgs s_unpack_image) (defBody s_unpack_image) (defScope s_unpack_image) [] [] (He.fAd K d_unpack_image.at_) (fd_unpack_image T) := (T.c.def_ 13 (d := d_unpack_image) rfl).choose_spec
theorem B_unpack_image (T : Tx w K mg) : Binds K (fd_unpack_image T) ["data"] [] := (F_unpack_image T).bindsN fun _ _ _ _ _ _ us hl => match us, hl with | [_], _ => rfl
noncomputable def fd_lw_bag (T : Tx w K mg) : FuncData := (T.c.def_ 14 (d := d_lw_bag) rfl).choose
theorem F_lw_bag (T : Tx w K mg) : FunD K "_law_bag" "_law_bag" (defArgs s_lw_bag) (defBody s_lw_bag) (defScope s_lw_bag) [] [] (He.fAd K d_lw_bag.at_) (fd_lw_bag T) := (T.c.def_ 14 (d := d_lw_bag) rfl).choose_spec
theorem B_lw_bag (T : Tx w K mg) : Binds K (fd_lw_bag T) ["script", "at"] [] := (F_lw_bag T).bindsN fun _ _ _ _ _ _ us hl => match us, hl with | [_, _], _ => rfl
noncomputable def fd_lw_take (T : Tx w K mg) : FuncData := (T.c.def_ 15 (d := d_lw_take) rfl).choose
theorem F_lw_take (T : Tx w K mg) : FunD K "_law_take" "_law_take" (defArgs s_lw_take) (defBody s_lw_take) (defScope s_lw_take) [] [] (He.fAd K d_lw_take.at_) (fd_lw_take T) := (T.c.def_ 15 (d := d_lw_take) rfl).choose_spec
theorem B_lw_take (T : Tx w K mg) : Binds K (fd_lw_take T) ["bag", "many"] [] := (F_lw_take T).bindsN fun _ _ _ _ _ _ us hl => match us, hl with | [_, _], _ => rfl
noncomputable def fd_lw_pick (T : Tx w K mg) : FuncData := (T.c.def_ 16 (d := d_lw_pick) rfl).choose
theorem F_lw_pick (T : Tx w K mg) : FunD K "_law_pick" "_law_pick" (defArgs s_lw_pick) (defBody s_lw_pick) (defScope s_lw_pick) [] [] (He.fAd K d_lw_pick.at_) (fd_lw_pick T) := (T.c.def_ 16 (d := d_lw_pick) rfl).choose_spec
theorem B_lw_pick (T : Tx w K mg) : Binds K (fd_lw_pick T) ["bag", "menu"] [] := (F_lw_pick T).bindsN fun _ _ _ _ _ _ us hl => match us, hl with | [_, _], _ => rfl
noncomputable def fd_lw_size (T : Tx w K mg) : FuncData := (T.c.def_ 17 (d := d_lw_size) rfl).choose
theorem F_lw_size (T : Tx w K mg) : FunD K "_law_size" "_law_size" (defArgs s_lw_size) (defBody s_lw_size) (defScope s_lw_size) [] [] (He.fAd K d_lw_size.at_) (fd_lw_size T) := (T.c.def_ 17 (d := d_lw_size) rfl).choose_spec
theorem B_lw_size (T : Tx w K mg) : Binds K (fd_lw_size T) ["bag"] [] := (F_lw_size T).bindsN fun _ _ _ _ _ _ us hl => match us, hl with | [_], _ => rfl
noncomputable def fd_lw_thing (T : Tx w K mg) : FuncData := (T.c.def_ 18 (d := d_lw_thing) rfl).choose
theorem F_lw_thing (T : Tx w K mg) : FunD K "_law_thing" "_law_thing" (defArgs s_lw_thing) (defBody s_lw_thing) (defScope s_lw_thing) [] [] (He.fAd K d_lw_thing.at_) (fd_lw_thing T) := (T.c.def_ 18 (d := d_lw_thing) rfl).choose_spec
theorem B_lw_thing (T : Tx w K mg) : Binds K (fd_lw_thing T) ["bag", "kind"] [] := (F_lw_thing T).bindsN fun _ _ _ _ _ _ us hl => match us, hl with | [_, _], _ => rfl
noncomputable def fd_lw_row (T : Tx w K mg) : FuncData := (T.c.def_ 19 (d := d_lw_row) rfl).choose
theorem F_lw_row (T : Tx w K mg) : FunD K "_law_row" "_law_row" (defArgs s_lw_row) (defBody s_lw_row) (defScope s_lw_row) [] [] (He.fAd K d_lw_row.at_) (fd_lw_row T) := (T.c.def_ 19 (d := d_lw_row) rfl).choose_spec
theorem B_lw_row (T : Tx w K mg) : Binds K (fd_lw_row T) ["bag", "kind", "large", "most"] [] := (F_lw_row T).bindsN fun _ _ _ _ _ _ us hl => match us, hl with | [_, _, _, _], _ => rfl
noncomputable def fd_lw_rows (T : Tx w K mg) : FuncData := (T.c.def_ 20 (d := d_lw_rows) rfl).choose
theorem F_lw_rows (T : Tx w K mg) : FunD K "_law_rows" "_law_rows" (defArgs s_lw_rows) (defBody s_lw_rows) (defScope s_lw_rows) [] [] (He.fAd K d_lw_rows.at_) (fd_lw_rows T) := (T.c.def_ 20 (d := d_lw_rows) rfl).choose_spec
theorem B_lw_rows (T : Tx w K mg) : Binds K (fd_lw_rows T) ["bag", "kind", "large"] [] := (F_lw_rows T).bindsN fun _ _ _ _ _ _ us hl => match us, hl with | [_, _, _], _ => rfl
noncomputable def fd_lw_image (T : Tx w K mg) : FuncData := (T.c.def_ 21 (d := d_lw_image) rfl).choose
theorem F_lw_image (T : Tx w K mg) : FunD K "_law_image" "_law_image" (defArgs s_lw_image) (defBody s_lw_image) (defScope s_lw_image) [] [] (He.fAd K d_lw_image.at_) (fd_lw_image T) := (T.c.def_ 21 (d := d_lw_image) rfl).choose_spec
theorem B_lw_image (T : Tx w K mg) : Binds K (fd_lw_image T) ["bag"] [] := (F_lw_image T).bindsN fun _ _ _ _ _ _ us hl => match us, hl with | [_], _ => rfl
noncomputable def fd_lw_groups (T : Tx w K mg) : FuncData := (T.c.def_ 22 (d := d_lw_groups) rfl).choose
theorem F_lw_groups (T : Tx w K mg) : FunD K "_law_groups" "_law_groups" (defArgs s_lw_groups) (defBody s_lw_groups) (defScope s_lw_groups) [] [] (He.fAd K d_lw_groups.at_) (fd_lw_groups T) := (T.c.def_ 22 (d := d_lw_groups) rfl).choose_spec
theorem B_lw_groups (T : Tx w K mg) : Binds K (fd_lw_groups T) ["n"] [] := (F_lw_groups T).bindsN fun _ _ _ _ _ _ us hl => match us, hl with | [_], _ => rfl
noncomputable def fd_lw_bytes (T : Tx w K mg) : FuncData := (T.c.def_ 23 (d := d_lw_bytes) rfl).choose
theorem F_lw_bytes (T : Tx w K mg) : FunD K "_law_bytes" "_law_bytes" (defArgs s_lw_bytes) (defBody s_lw_bytes) (defScope s_lw_bytes) [] [] (He.fAd K d_lw_bytes.at_) (fd_lw_bytes T) := (T.c.def_ 23 (d := d_lw_bytes) rfl).choose_spec
theorem B_lw_bytes (T : Tx w K mg) : Binds K (fd_lw_bytes T) ["image"] [] := (F_lw_bytes T).bindsN fun _ _ _ _ _ _ us hl => match us, hl with | [_], _ => rfl
noncomputable def fd_lw_same (T : Tx w K mg) : FuncData := (T.c.def_ 24 (d := d_lw_same) rfl).choose
theorem F_lw_same (T : Tx w K mg) : FunD K "_law_same" "_law_same" (defArgs s_lw_same) (defBody s_lw_same) (defScope s_lw_same) [] [] (He.fAd K d_lw_same.at_) (fd_lw_same T) := (T.c.def_ 24 (d := d_lw_same) rfl).choose_spec
theorem B_lw_same (T : Tx w K mg) : Binds K (fd_lw_same T) ["got", "due"] [] := (F_lw_same T).bindsN fun _ _ _ _ _ _ us hl => match us, hl with | [_, _], _ => rfl
noncomputable def fd_law (T : Tx w K mg) : FuncData := (T.c.def_ 25 (d := d_law) rfl).choose
theorem F_law (T : Tx w K mg) : FunD K "law" "law" (defArgs s_law) (defBody s_law) (defScope s_law) [] [] (He.fAd K d_law.at_) (fd_law T) := (T.c.def_ 25 (d := d_law) rfl).choose_spec
theorem B_law (T : Tx w K mg) : Binds K (fd_law T) ["script"] [] := (F_law T).bindsN fun _ _ _ _ _ _ us hl => match us, hl with | [_], _ => rfl
end
variable {P : Program} {w : World} {K : PySem.W.Frag} {mg : Str → Option Value} {base : Heap}
theorem Tx.cf (T : Tx w K mg) : CF K := ⟨trivial, cl_Reader T, na_Reader_data T, na_Reader_place T, na_Reader_end T, kd_ARGUMENTS T, ty_OPERATIONS T, tu_OPERATIONS T⟩
theorem ok_argument_count (T : Tx w K mg) : FnOk P w K mg base CX0 1 (He.fAd K d_argument_count.at_) (fd_argument_count T) ["name"] (sp_argument_count K) := by
  refine (F_argument_count T).ok sc_argument_count (fun vs H Q E h => Sp1.len h) (fun cdv A outer s H vs Q E hr h => ⟨t_argument_count K, PSs.nox ?_, rd_argument_count T.cf h⟩)
  exact pss_one (ps_ret (pe_kget2 T.kx_ARGUMENTS.choose_spec.choose_spec (pe_glob rfl (g_ARGUMENTS T) rfl) (pv 0) (pe_int) ⟨rfl, rfl, rfl, rfl⟩))

theorem ok_groups (T : Tx w K mg) : FnOk P w K mg base CX0 1 (He.fAd K d_groups.at_) (fd_groups T) ["number"] (sp_groups K) := by
  refine (F_groups T).ok sc_groups (fun vs H Q E h => Sp1.len h) (fun cdv A outer s H vs Q E hr h => ⟨t_groups K, PSs.nox ?_, rd_groups T.cf h⟩)
  exact pss_cons (ps_set (i := 1) sc_groups.nd rfl (Or.inl rfl) (pe_lst (pa_nil)))
            (pss_cons (ps_while PassesOwn.never (pt_cmpR op_ge (pv 0) (pe_int) (nomark _)) (pss_cons (ps_expr (pe_bm PySem.F.plainAttrs_list PySem.F.slot_list_append PySem.F.type_list_append mt_append (pv 1) (pa_cons (pe_op op_add (pe_op op_modN (pv 0) (pe_int)) (pe_int)) (pa_nil))))
            (pss_one (ps_set (i := 0) sc_groups.nd rfl (Or.inl rfl) (pe_op op_fdivN (pv 0) (pe_int))))))
            (pss_one (ps_ret (pe_op op_cat (pv 1) (pe_lst (pa_cons (pv 0) (pa_nil)))))))

theorem ok_table_numbers (T : Tx w K mg) : FnOk P w K mg base CX0 1 (He.fAd K d_table_numbers.at_) (fd_table_numbers T) ["table"] (sp_table_numbers K) := by
  refine (F_table_numbers T).ok sc_table_numbers (fun vs H Q E h => Sp1.len h) (fun cdv A outer s H vs Q E hr h => ⟨t_table_numbers K, PSs.nox ?_, rd_table_numbers T.cf h⟩)
  exact pss_cons (ps_set (i := 1) sc_table_numbers.nd rfl (Or.inl rfl) (pe_lst (pa_cons (pe_callB call_len rfl (b_len T) bt_len (pa_cons (pv 0) (pa_nil))) (pa_nil))))
            (pss_cons (ps_for PassesOwn.never rfl (pi_tup (pv 0)) (pg_tup (by rfl) (pgs_cons (pg_name (i := 2) sc_table_numbers.nd rfl (Or.inl rfl)) (pgs_cons (pg_name (i := 3) sc_table_numbers.nd rfl (Or.inl rfl)) (pgs_nil)))) (pss_one (ps_expr (pe_bm PySem.F.plainAttrs_list PySem.F.slot_list_extend PySem.F.type_list_extend mt_extend (pv 1) (pa_cons (pe_lst (pa_cons (pv 2) (pa_cons (pe_ifExp (pt_truth (pv 3) (by intro _; rfl)) (pe_int) (pe_int)) (pa_nil)))) (pa_nil))))))
            (pss_one (ps_ret (pv 1))))

theorem ok_segment_numbers (T : Tx w K mg) : FnOk P w K mg base CX0 1 (He.fAd K d_segment_numbers.at_) (fd_segment_numbers T) ["segment"] (sp_segment_numbers K) := by
  refine (F_segment_numbers T).ok sc_segment_numbers (fun vs H Q E h => Sp1.len h) (fun cdv A outer s H vs Q E hr h => ⟨t_segment_numbers K, PSs.nox ?_, rd_segment_numbers T.cf h⟩)
  exact pss_cons (ps_asg (pv 0) (pg_tup (by rfl) (pgs_cons (pg_name (i := 1) sc_segment_numbers.nd rfl (Or.inl rfl)) (pgs_cons (pg_name (i := 2) sc_segment_numbers.nd rfl (Or.inl rfl)) (pgs_nil)))))
            (pss_cons (ps_set (i := 3) sc_segment_numbers.nd rfl (Or.inl rfl) (pe_lst (pa_cons (pv 1) (pa_cons (pe_callB call_len rfl (b_len T) bt_len (pa_cons (pv 2) (pa_nil))) (pa_nil)))))
            (pss_cons (ps_for PassesOwn.never rfl (pi_tup (pv 2)) (pg_name (i := 4) sc_segment_numbers.nd rfl (Or.inl rfl)) (pss_cons (ps_expr (pe_bm PySem.F.plainAttrs_list PySem.F.slot_list_append PySem.F.type_list_append mt_append (pv 3) (pa_cons (pe_bm PySem.F.plainAttrs_tuple PySem.F.slot_tuple_index PySem.F.type_tuple_index mt_indexT (pe_glob rfl (g_OPERATIONS T) rfl) (pa_cons (pe_ix ix_tup (pv 4) (pe_int) (fun _ _ => rfl)) (pa_nil))) (pa_nil))))
            (pss_one (ps_expr (pe_bm PySem.F.plainAttrs_list PySem.F.slot_list_extend PySem.F.type_list_extend mt_extendT (pv 3) (pa_cons (pe_slice L2.sl_tupA (pv 4) (po_some (pe_int)) (po_none)) (pa_nil)))))))
            (pss_one (ps_ret (pv 3)))))

theorem ok_pack_image (T : Tx w K mg) : FnOk P w K mg base CX0 2 (He.fAd K d_pack_image.at_) (fd_pack_image T) ["image"] (sp_pack_image K) := by
  refine (F_pack_image T).ok sc_pack_image (fun vs H Q E h => Sp1.len h) (fun cdv A outer s H vs Q E hr h => ⟨t_pack_image K, PSs.nox ?_, rd_pack_image T.cf h⟩)
  exact pss_cons (ps_asg (pv 0) (pg_tup (by rfl) (pgs_cons (pg_name (i := 1) sc_pack_image.nd rfl (Or.inl rfl)) (pgs_cons (pg_name (i := 2) sc_pack_image.nd rfl (Or.inl rfl)) (pgs_cons (pg_name (i := 3) sc_pack_image.nd rfl (Or.inl rfl)) (pgs_nil))))))
            (pss_cons (ps_set (i := 4) sc_pack_image.nd rfl (Or.inl rfl) (pe_lst (pa_cons (pe_callB call_len rfl (b_len T) bt_len (pa_cons (pv 1) (pa_nil))) (pa_nil))))
            (pss_cons (ps_for PassesOwn.never rfl (pi_tup (pv 1)) (pg_name (i := 5) sc_pack_image.nd rfl (Or.inl rfl)) (pss_one (ps_expr (pe_bm PySem.F.plainAttrs_list PySem.F.slot_list_extend PySem.F.type_list_extend mt_extend (pv 4) (pa_cons (pe_call (ok_table_numbers T) (hr.mono (by omega)) rfl (g_table_numbers T) (F_table_numbers T).kp (B_table_numbers T) .nil pass0 (pa_cons (pv 5) (pa_nil))) (pa_nil))))))
            (pss_cons (ps_expr (pe_bm PySem.F.plainAttrs_list PySem.F.slot_list_append PySem.F.type_list_append mt_append (pv 4) (pa_cons (pe_callB call_len rfl (b_len T) bt_len (pa_cons (pv 2) (pa_nil))) (pa_nil))))
            (pss_cons (ps_for PassesOwn.never rfl (pi_tup (pv 2)) (pg_name (i := 6) sc_pack_image.nd rfl (Or.inl rfl)) (pss_one (ps_expr (pe_bm PySem.F.plainAttrs_list PySem.F.slot_list_extend PySem.F.type_list_extend mt_extend (pv 4) (pa_cons (pe_call (ok_segment_numbers T) (hr.mono (by omega)) rfl (g_segment_numbers T) (F_segment_numbers T).kp (B_segment_numbers T) .nil pass0 (pa_cons (pv 6) (pa_nil))) (pa_nil))))))
            (pss_cons (ps_expr (pe_bm PySem.F.plainAttrs_list PySem.F.slot_list_append PySem.F.type_list_append mt_append (pv 4) (pa_cons (pe_callB call_len rfl (b_len T) bt_len (pa_cons (pv 3) (pa_nil))) (pa_nil))))
            (pss_cons (ps_for PassesOwn.never rfl (pi_tup (pv 3)) (pg_name (i := 7) sc_pack_image.nd rfl (Or.inl rfl)) (pss_one (ps_expr (pe_bm PySem.F.plainAttrs_list PySem.F.slot_list_extend PySem.F.type_list_extend mt_extend (pv 4) (pa_cons (pe_op op_cat (pe_lst (pa_cons (pe_callB call_len rfl (b_len T) bt_len (pa_cons (pv 7) (pa_nil))) (pa_nil))) (pe_callTy call_list_of rfl (b_list T) bt_list (pa_cons (pv 7) (pa_nil)))) (pa_nil))))))
            (pss_cons (ps_set (i := 8) sc_pack_image.nd rfl (Or.inl rfl) (pe_lst (pa_cons (pe_globI rfl (c_HEAD T)) (pa_nil))))
            (pss_cons (ps_for PassesOwn.never rfl (pi_list (pv 4)) (pg_name (i := 9) sc_pack_image.nd rfl (Or.inl rfl)) (pss_one (ps_expr (pe_bm PySem.F.plainAttrs_list PySem.F.slot_list_extend PySem.F.type_list_extend mt_extend (pv 8) (pa_cons (pe_call (ok_groups T) (hr.mono (by omega)) rfl (g_groups T) (F_groups T).kp (B_groups T) .nil pass0 (pa_cons (pv 9) (pa_nil))) (pa_nil))))))
            (pss_one (ps_ret (pe_op op_cat (pv 8) (pe_lst (pa_cons (pe_op op_modN (pe_callB (cr_sum rfl) rfl (b_sum T) bt_sum (pa_cons (pv 8) (pa_nil))) (pe_int)) (pa_nil))))))))))))))

theorem ok_Readeru_initu (T : Tx w K mg) : FnOk P w K mg base CX0 1 (He.fAd K d_Readeru_initu.at_) (fd_Readeru_initu T) ["self", "data"] (sp_Readeru_initu K) := by
  refine (F_Readeru_initu T).ok sc_Readeru_initu (fun vs H Q E h => Sp2.len h) (fun cdv A outer s H vs Q E hr h => ⟨t_Readeru_initu K, PSs.nox ?_, rd_Readeru_initu T.cf h⟩)
  exact pss_cons (ps_fld (pv 0) (pv 1) rfl)
            (pss_cons (ps_fld (pv 0) (pe_int) rfl)
            (pss_one (ps_fld (pv 0) (pe_op op_sub (pe_callB call_len rfl (b_len T) bt_len (pa_cons (pv 1) (pa_nil))) (pe_int)) rfl)))

theorem ok_Reader_next_byte (T : Tx w K mg) : FnOk P w K mg base CX0 1 (He.fAd K d_Reader_next_byte.at_) (fd_Reader_next_byte T) ["self"] (sp_Reader_next_byte K) := by
  refine (F_Reader_next_byte T).ok sc_Reader_next_byte (fun vs H Q E h => Sp1.len h) (fun cdv A outer s H vs Q E hr h => ⟨t_Reader_next_byte K, PSs.nox ?_, rd_Reader_next_byte T.cf h⟩)
  exact pss_cons (ps_if (pt_cmpR op_ge (pe_fld (pv 0) rfl) (pe_fld (pv 0) rfl) (nomark _)) (pss_one (ps_never)) (pss_nil))
            (pss_cons (ps_set (i := 1) sc_Reader_next_byte.nd rfl (Or.inl rfl) (pe_ix ix_list (pe_fld (pv 0) rfl) (pe_fld (pv 0) rfl) (fun _ _ => rfl)))
            (pss_cons (ps_fld (pv 0) (pe_op op_add (pe_fld (pv 0) rfl) (pe_int)) rfl)
            (pss_one (ps_ret (pv 1)))))

theorem ok_Reader_next_number (T : Tx w K mg) : FnOk P w K mg base CX0 2 (He.fAd K d_Reader_next_number.at_) (fd_Reader_next_number T) ["self"] (sp_Reader_next_number K) := by
  refine (F_Reader_next_number T).ok sc_Reader_next_number (fun vs H Q E h => Sp1.len h) (fun cdv A outer s H vs Q E hr h => ⟨t_Reader_next_number K, PSs.nox ?_, rd_Reader_next_number T.cf h⟩)
  exact pss_cons (ps_set (i := 1) sc_Reader_next_number.nd rfl (Or.inl rfl) (pe_int))
            (pss_cons (ps_set (i := 2) sc_Reader_next_number.nd rfl (Or.inl rfl) (pe_int))
            (pss_cons (ps_for PassesOwn.never rfl (pi_range1 rfl (b_range T) (pa_cons (pe_int) (pa_nil))) (pg_name (i := 3) sc_Reader_next_number.nd rfl (Or.inl rfl)) (pss_cons (ps_set (i := 4) sc_Reader_next_number.nd rfl (Or.inl rfl) (pe_meth0 (pv 0) (cl_Reader T) (me_Reader_next_byte T) (ok_Reader_next_byte T) (hr.mono (by omega)) (B_Reader_next_byte T) .nil pass0))
            (pss_cons (ps_if (PW.pt (pw_and (pt_cmpR op_eq (pv 4) (pe_int) (nomark _)) (pw_and1 (pt_cmpR op_gt (pv 3) (pe_int) (nomark _))))) (pss_one (ps_never)) (pss_nil))
            (pss_cons (ps_if (pt_cmpR op_lt (pv 4) (pe_int) (nomark _)) (pss_one (ps_ret (pe_op op_add (pv 1) (pe_op op_mul (pv 4) (pv 2))))) (pss_nil))
            (pss_cons (ps_set (i := 1) sc_Reader_next_number.nd rfl (Or.inl rfl) (pe_op op_add (pv 1) (pe_op op_mul (pe_op op_sub (pv 4) (pe_int)) (pv 2))))
            (pss_one (ps_set (i := 2) sc_Reader_next_number.nd rfl (Or.inl rfl) (pe_op op_mul (pv 2) (pe_int)))))))))
            (pss_one (ps_never))))

theorem ok_Reader_next_numbers (T : Tx w K mg) : FnOk P w K mg base CX0 3 (He.fAd K d_Reader_next_numbers.at_) (fd_Reader_next_numbers T) ["self"] (sp_Reader_next_numbers K) := by
  refine (F_Reader_next_numbers T).ok sc_Reader_next_numbers (fun vs H Q E h => Sp1.len h) (fun cdv A outer s H vs Q E hr h => ⟨t_Reader_next_numbers K, PSs.nox ?_, rd_Reader_next_numbers T.cf h⟩)
  exact pss_cons (ps_set (i := 1) sc_Reader_next_numbers.nd rfl (Or.inl rfl) (pe_meth0 (pv 0) (cl_Reader T) (me_Reader_next_number T) (ok_Reader_next_number T) (hr.mono (by omega)) (B_Reader_next_number T) .nil pass0))
            (pss_one (ps_ret (pe_callTy call_tuple_of rfl (b_tuple T) bt_tuple (pa_cons (pe_lc (own := [(("_" : Str), 2)]) (by rfl) sc_Reader_next_numbers.nd (pi_range1 rfl (b_range T) (pa_cons (pv 1) (pa_nil))) (blkOk_by (own := [(("_" : Str), 2)]) (N := [("self" : Str), ("many" : Str), ("_" : Str)]) (sc := defScope s_Reader_next_numbers) (by decide +kernel)) (fun _ _ _ _ _ => pg_name (i := 2) sc_Reader_next_numbers.nd rfl (Or.inl rfl)) (fun _ _ _ _ _ => pts_nil) (fun _ _ _ _ _ => pe_meth0 (pv 0) (cl_Reader T) (me_Reader_next_number T) (ok_Reader_next_number T) (hr.mono (by omega)) (B_Reader_next_number T) .nil pass0)) (pa_nil)))))

theorem ok_Reader_next_cell (T : Tx w K mg) : FnOk P w K mg base CX0 3 (He.fAd K d_Reader_next_cell.at_) (fd_Reader_next_cell T) ["self"] (sp_Reader_next_cell K) := by
  refine (F_Reader_next_cell T).ok sc_Reader_next_cell (fun vs H Q E h => Sp1.len h) (fun cdv A outer s H vs Q E hr h => ⟨t_Reader_next_cell K, PSs.nox ?_, rd_Reader_next_cell T.cf h⟩)
  exact pss_cons (ps_set (i := 1) sc_Reader_next_cell.nd rfl (Or.inl rfl) (pe_meth0 (pv 0) (cl_Reader T) (me_Reader_next_number T) (ok_Reader_next_number T) (hr.mono (by omega)) (B_Reader_next_number T) .nil pass0))
            (pss_cons (ps_set (i := 2) sc_Reader_next_cell.nd rfl (Or.inl rfl) (pe_meth0 (pv 0) (cl_Reader T) (me_Reader_next_number T) (ok_Reader_next_number T) (hr.mono (by omega)) (B_Reader_next_number T) .nil pass0))
            (pss_cons (ps_if (pt_cmpR op_gt (pv 2) (pe_int) (nomark _)) (pss_one (ps_never)) (pss_nil))
            (pss_one (ps_ret (pe_tup (pa_cons (pv 1) (pa_cons (pe_cmpR op_eq (pv 2) (pe_int) (nomark _)) (pa_nil))))))))

theorem ok_Reader_next_table (T : Tx w K mg) : FnOk P w K mg base CX0 4 (He.fAd K d_Reader_next_table.at_) (fd_Reader_next_table T) ["self"] (sp_Reader_next_table K) := by
  refine (F_Reader_next_table T).ok sc_Reader_next_table (fun vs H Q E h => Sp1.len h) (fun cdv A outer s H vs Q E hr h => ⟨t_Reader_next_table K, PSs.nox ?_, rd_Reader_next_table T.cf h⟩)
  exact pss_cons (ps_set (i := 1) sc_Reader_next_table.nd rfl (Or.inl rfl) (pe_meth0 (pv 0) (cl_Reader T) (me_Reader_next_number T) (ok_Reader_next_number T) (hr.mono (by omega)) (B_Reader_next_number T) .nil pass0))
            (pss_one (ps_ret (pe_callTy call_tuple_of rfl (b_tuple T) bt_tuple (pa_cons (pe_lc (own := [(("_" : Str), 2)]) (by rfl) sc_Reader_next_table.nd (pi_range1 rfl (b_range T) (pa_cons (pv 1) (pa_nil))) (blkOk_by (own := [(("_" : Str), 2)]) (N := [("self" : Str), ("many" : Str), ("_" : Str)]) (sc := defScope s_Reader_next_table) (by decide +kernel)) (fun _ _ _ _ _ => pg_name (i := 2) sc_Reader_next_table.nd rfl (Or.inl rfl)) (fun _ _ _ _ _ => pts_nil) (fun _ _ _ _ _ => pe_meth0 (pv 0) (cl_Reader T) (me_Reader_next_cell T) (ok_Reader_next_cell T) (hr.mono (by omega)) (B_Reader_next_cell T) .nil pass0)) (pa_nil)))))

theorem ok_Reader_next_instruction (T : Tx w K mg) : FnOk P w K mg base CX0 3 (He.fAd K d_Reader_next_instruction.at_) (fd_Reader_next_instruction T) ["self"] (sp_Reader_next_instruction K) := by
  refine (F_Reader_next_instruction T).ok sc_Reader_next_instruction (fun vs H Q E h => Sp1.len h) (fun cdv A outer s H vs Q E hr h => ⟨t_Reader_next_instruction K, PSs.nox ?_, rd_Reader_next_instruction T.cf h⟩)
  exact pss_cons (ps_set (i := 1) sc_Reader_next_instruction.nd rfl (Or.inl rfl) (pe_meth0 (pv 0) (cl_Reader T) (me_Reader_next_number T) (ok_Reader_next_number T) (hr.mono (by omega)) (B_Reader_next_number T) .nil pass0))
            (pss_cons (ps_if (pt_cmpR op_ge (pv 1) (pe_callB call_len rfl (b_len T) bt_len (pa_cons (pe_glob rfl (g_OPERATIONS T) rfl) (pa_nil))) (nomark _)) (pss_one (ps_never)) (pss_nil))
            (pss_cons (ps_set (i := 2) sc_Reader_next_instruction.nd rfl (Or.inl rfl) (pe_ix ix_tup (pe_glob rfl (g_OPERATIONS T) rfl) (pv 1) (fun _ _ => rfl)))
            (pss_cons (ps_setLc (i := 3) (own := [(("_" : Str), 4)]) (by rfl) sc_Reader_next_instruction.nd rfl rfl (sw_true rfl rfl rfl (by decide +kernel)) (pi_range1 rfl (b_range T) (pa_cons (pe_call (ok_argument_count T) (hr.mono (by omega)) rfl (g_argument_count T) (F_argument_count T).kp (B_argument_count T) .nil pass0 (pa_cons (pv 2) (pa_nil))) (pa_nil))) (blkOk_by (own := [(("_" : Str), 4)]) (N := [("self" : Str), ("number" : Str), ("name" : Str), ("arguments" : Str), ("_" : Str)]) (sc := defScope s_Reader_next_instruction) (by decide +kernel)) (fun _ _ _ _ _ => pg_name (i := 4) sc_Reader_next_instruction.nd rfl (Or.inl rfl)) (fun _ _ _ _ _ => pts_nil) (fun _ _ _ _ _ => pe_meth0 (pv 0) (cl_Reader T) (me_Reader_next_number T) (ok_Reader_next_number T) (hr.mono (by omega)) (B_Reader_next_number T) .nil pass0))
            (pss_one (ps_ret (pe_callTy call_tuple_of rfl (b_tuple T) bt_tuple (pa_cons (pe_op op_cat (pe_lst (pa_cons (pv 2) (pa_nil))) (pv 3)) (pa_nil))))))))

theorem ok_Reader_next_segment (T : Tx w K mg) : FnOk P w K mg base CX0 4 (He.fAd K d_Reader_next_segment.at_) (fd_Reader_next_segment T) ["self"] (sp_Reader_next_segment K) := by
  refine (F_Reader_next_segment T).ok sc_Reader_next_segment (fun vs H Q E h => Sp1.len h) (fun cdv A outer s H vs Q E hr h => ⟨t_Reader_next_segment K, PSs.nox ?_, rd_Reader_next_segment T.cf h⟩)
  exact pss_cons (ps_set (i := 1) sc_Reader_next_segment.nd rfl (Or.inl rfl) (pe_meth0 (pv 0) (cl_Reader T) (me_Reader_next_number T) (ok_Reader_next_number T) (hr.mono (by omega)) (B_Reader_next_number T) .nil pass0))
            (pss_cons (ps_set (i := 2) sc_Reader_next_segment.nd rfl (Or.inl rfl) (pe_meth0 (pv 0) (cl_Reader T) (me_Reader_next_number T) (ok_Reader_next_number T) (hr.mono (by omega)) (B_Reader_next_number T) .nil pass0))
            (pss_one (ps_ret (pe_tup (pa_cons (pv 1) (pa_cons (pe_callTy call_tuple_of rfl (b_tuple T) bt_tuple (pa_cons (pe_lc (own := [(("_" : Str), 3)]) (by rfl) sc_Reader_next_segment.nd (pi_range1 rfl (b_range T) (pa_cons (pv 2) (pa_nil))) (blkOk_by (own := [(("_" : Str), 3)]) (N := [("self" : Str), ("table" : Str), ("many" : Str), ("_" : Str)]) (sc := defScope s_Reader_next_segment) (by decide +kernel)) (fun _ _ _ _ _ => pg_name (i := 3) sc_Reader_next_segment.nd rfl (Or.inl rfl)) (fun _ _ _ _ _ => pts_nil) (fun _ _ _ _ _ => pe_meth0 (pv 0) (cl_Reader T) (me_Reader_next_instruction T) (ok_Reader_next_instruction T) (hr.mono (by omega)) (B_Reader_next_instruction T) .nil pass0)) (pa_nil))) (pa_nil)))))))

theorem ok_unpack_image (T : Tx w K mg) : FnOk P w K mg base CX0 5 (He.fAd K d_unpack_image.at_) (fd_unpack_image T) ["data"] (sp_unpack_image K) := by
  refine (F_unpack_image T).ok sc_unpack_image (fun vs H Q E h => Sp1.len h) (fun cdv A outer s H vs Q E hr h => ⟨t_unpack_image K, PSs.nox ?_, rd_unpack_image T.cf h⟩)
  exact pss_cons (ps_if (pt_cmpR op_lt (pe_callB call_len rfl (b_len T) bt_len (pa_cons (pv 0) (pa_nil))) (pe_int) (nomark _)) (pss_one (ps_never)) (pss_nil))
            (pss_cons (ps_if (pt_cmpR op_ne (pe_ix ix_list (pv 0) (pe_int) (fun _ _ => rfl)) (pe_globI rfl (c_HEAD T)) (nomark _)) (pss_one (ps_never)) (pss_nil))
            (pss_cons (ps_if (pt_cmpR op_ne (pe_op op_modN (pe_callB (cr_sum rfl) rfl (b_sum T) bt_sum (pa_cons (pe_slice sl_list (pv 0) (po_none) (po_some (pe_un un_neg (pe_int)))) (pa_nil))) (pe_int)) (pe_ix ix_list (pv 0) (pe_un un_neg (pe_int)) (fun _ _ => rfl)) (nomark _)) (pss_one (ps_never)) (pss_nil))
            (pss_cons (ps_set (i := 1) sc_unpack_image.nd rfl (Or.inr rfl) (pe_make (mk_Reader T) (ok_Readeru_initu T) (hr.mono (by omega)) rfl (g_Reader T) (B_Readeru_initu T) .nil pass0 (pa_cons (pv 0) (pa_nil))))
            (pss_cons (ps_set (i := 2) sc_unpack_image.nd rfl (Or.inl rfl) (pe_callTy call_tuple_of rfl (b_tuple T) bt_tuple (pa_cons (pe_lc (own := [(("_" : Str), 5)]) (by rfl) sc_unpack_image.nd (pi_range1 rfl (b_range T) (pa_cons (pe_meth0 (pv 1) (cl_Reader T) (me_Reader_next_number T) (ok_Reader_next_number T) (hr.mono (by omega)) (B_Reader_next_number T) .nil pass0) (pa_nil))) (blkOk_by (own := [(("_" : Str), 5)]) (N := [("data" : Str), ("reader" : Str), ("tables" : Str), ("segments" : Str), ("plan" : Str), ("_" : Str)]) (sc := defScope s_unpack_image) (by decide +kernel)) (fun _ _ _ _ _ => pg_name (i := 5) sc_unpack_image.nd rfl (Or.inl rfl)) (fun _ _ _ _ _ => pts_nil) (fun _ _ _ _ _ => pe_meth0 (pv 1) (cl_Reader T) (me_Reader_next_table T) (ok_Reader_next_table T) (hr.mono (by omega)) (B_Reader_next_table T) .nil pass0)) (pa_nil))))
            (pss_cons (ps_set (i := 3) sc_unpack_image.nd rfl (Or.inl rfl) (pe_callTy call_tuple_of rfl (b_tuple T) bt_tuple (pa_cons (pe_lc (own := [(("_" : Str), 5)]) (by rfl) sc_unpack_image.nd (pi_range1 rfl (b_range T) (pa_cons (pe_meth0 (pv 1) (cl_Reader T) (me_Reader_next_number T) (ok_Reader_next_number T) (hr.mono (by omega)) (B_Reader_next_number T) .nil pass0) (pa_nil))) (blkOk_by (own := [(("_" : Str), 5)]) (N := [("data" : Str), ("reader" : Str), ("tables" : Str), ("segments" : Str), ("plan" : Str), ("_" : Str)]) (sc := defScope s_unpack_image) (by decide +kernel)) (fun _ _ _ _ _ => pg_name (i := 5) sc_unpack_image.nd rfl (Or.inl rfl)) (fun _ _ _ _ _ => pts_nil) (fun _ _ _ _ _ => pe_meth0 (pv 1) (cl_Reader T) (me_Reader_next_segment T) (ok_Reader_next_segment T) (hr.mono (by omega)) (B_Reader_next_segment T) .nil pass0)) (pa_nil))))
            (pss_cons (ps_set (i := 4) sc_unpack_image.nd rfl (Or.inl rfl) (pe_callTy call_tuple_of rfl (b_tuple T) bt_tuple (pa_cons (pe_lc (own := [(("_" : Str), 5)]) (by rfl) sc_unpack_image.nd (pi_range1 rfl (b_range T) (pa_cons (pe_meth0 (pv 1) (cl_Reader T) (me_Reader_next_number T) (ok_Reader_next_number T) (hr.mono (by omega)) (B_Reader_next_number T) .nil pass0) (pa_nil))) (blkOk_by (own := [(("_" : Str), 5)]) (N := [("data" : Str), ("reader" : Str), ("tables" : Str), ("segments" : Str), ("plan" : Str), ("_" : Str)]) (sc := defScope s_unpack_image) (by decide +kernel)) (fun _ _ _ _ _ => pg_name (i := 5) sc_unpack_image.nd rfl (Or.inl rfl)) (fun _ _ _ _ _ => pts_nil) (fun _ _ _ _ _ => pe_meth0 (pv 1) (cl_Reader T) (me_Reader_next_numbers T) (ok_Reader_next_numbers T) (hr.mono (by omega)) (B_Reader_next_numbers T) .nil pass0)) (pa_nil))))
            (pss_cons (ps_if (pt_cmpR op_lt (pe_fld (pv 1) rfl) (pe_fld (pv 1) rfl) (nomark _)) (pss_one (ps_never)) (pss_nil))
            (pss_one (ps_ret (pe_tup (pa_cons (pv 2) (pa_cons (pv 3) (pa_cons (pv 4) (pa_nil))))))))))))))

theorem ok_lw_bag (T : Tx w K mg) : FnOk P w K mg base CX0 1 (He.fAd K d_lw_bag.at_) (fd_lw_bag T) ["script", "at"] (sp_lw_bag K) := by
  refine (F_lw_bag T).ok sc_lw_bag (fun vs H Q E h => Sp2.len h) (fun cdv A outer s H vs Q E hr h => ⟨t_lw_bag K, PSs.nox ?_, rd_lw_bag T.cf h⟩)
  exact pss_cons (ps_set (i := 2) sc_lw_bag.nd rfl (Or.inl rfl) (pe_int))
            (Evl.pss_cut (ps_if (pt_cmpR op_lt (pv 1) (pe_callB call_len rfl (b_len T) bt_len (pa_cons (pv 0) (pa_nil))) (nomark _)) (pss_one (ps_set (i := 2) sc_lw_bag.nd rfl (Or.inl rfl) (pe_ix ix_list (pv 0) (pv 1) (fun _ _ => rfl)))) (pss_nil))
            (Evl.pss_cut (ps_if (pt_cmpR op_lt (pv 2) (pe_int) (nomark _)) (pss_one (ps_set (i := 2) sc_lw_bag.nd rfl (Or.inl rfl) (pe_op op_sub (pe_int) (pe_op op_mul (pe_int) (pv 2))))) (pss_nil))
            (pss_cons (ps_if (pt_cmpR op_ge (pv 2) (pe_op op_pow (pe_int) (pe_int)) (nomark _)) (pss_one (ps_ret (pe_lst (pa_cons (pe_op op_sub (pv 2) (pe_op op_pow (pe_int) (pe_int))) (pa_cons (pv 1) (pa_cons (pe_int) (pa_nil))))))) (pss_nil))
            (pss_one (ps_ret (pe_lst (pa_cons (pv 2) (pa_cons (pv 1) (pa_cons (pe_int) (pa_nil))))))))))

theorem ok_lw_take (T : Tx w K mg) : FnOk P w K mg base CX0 1 (He.fAd K d_lw_take.at_) (fd_lw_take T) ["bag", "many"] (sp_lw_take K) := by
  refine (F_lw_take T).ok sc_lw_take (fun vs H Q E h => Sp2.len h) (fun cdv A outer s H vs Q E hr h => ⟨t_lw_take K, PSs.nox ?_, rd_lw_take T.cf h⟩)
  exact pss_cons (ps_if (PW.pt (pw_and (pt_cmpR op_eq (pe_ix ix_list (pv 0) (pe_int) (fun _ _ => rfl)) (pe_int) (nomark _)) (pw_and1 (pt_cmpR op_gt (pe_ix ix_list (pv 0) (pe_int) (fun _ _ => rfl)) (pe_int) (nomark _))))) (pss_cons (ps_set (i := 2) sc_lw_take.nd rfl (Or.inl rfl) (pe_op op_modN (pe_callTy call_int1 rfl (b_int T) bt_int (pa_cons (pe_ix ix_list (pv 0) (pe_int) (fun _ _ => rfl)) (pa_nil))) (pv 1)))
            (pss_cons (ps_asg (pe_op op_fdivN (pe_ix ix_list (pv 0) (pe_int) (fun _ _ => rfl)) (pv 1)) (pg_sub (pv 0) (pe_int) set_list))
            (pss_one (ps_ret (pv 2))))) (pss_nil))
            (pss_cons (ps_asg (pe_op op_add (pe_ix ix_list (pv 0) (pe_int) (fun _ _ => rfl)) (pe_int)) (pg_sub (pv 0) (pe_int) set_list))
            (pss_cons (ps_set (i := 3) sc_lw_take.nd rfl (Or.inl rfl) (pe_op op_modN (pe_callTy call_int1 rfl (b_int T) bt_int (pa_cons (pe_op op_add (pe_op op_add (pe_op op_mul (pe_ix ix_list (pv 0) (pe_int) (fun _ _ => rfl)) (pe_int)) (pe_op op_mul (pe_ix ix_list (pv 0) (pe_int) (fun _ _ => rfl)) (pe_int))) (pe_int)) (pa_nil))) (pe_int)))
            (pss_cons (ps_set (i := 4) sc_lw_take.nd rfl (Or.inl rfl) (pe_op op_modN (pe_callTy call_int1 rfl (b_int T) bt_int (pa_cons (pe_op op_add (pe_op op_mul (pv 3) (pv 3)) (pe_op op_mul (pe_ix ix_list (pv 0) (pe_int) (fun _ _ => rfl)) (pe_int))) (pa_nil))) (pe_int)))
            (pss_cons (ps_set (i := 5) sc_lw_take.nd rfl (Or.inl rfl) (pe_op op_modN (pe_callTy call_int1 rfl (b_int T) bt_int (pa_cons (pe_op op_add (pe_op op_mul (pv 4) (pv 4)) (pv 3)) (pa_nil))) (pe_int)))
            (pss_one (ps_ret (pe_op op_modN (pe_callTy call_int1 rfl (b_int T) bt_int (pa_cons (pe_op op_fdivN (pv 5) (pe_int)) (pa_nil))) (pv 1))))))))

theorem ok_lw_pick (T : Tx w K mg) : FnOk P w K mg base CX0 2 (He.fAd K d_lw_pick.at_) (fd_lw_pick T) ["bag", "menu"] (sp_lw_pick K) := by
  refine (F_lw_pick T).ok sc_lw_pick (fun vs H Q E h => Sp2.len h) (fun cdv A outer s H vs Q E hr h => ⟨t_lw_pick K, PSs.nox ?_, rd_lw_pick T.cf h⟩)
  exact pss_one (ps_ret (pe_ix ix_list (pv 1) (pe_call (ok_lw_take T) (hr.mono (by omega)) rfl (g_lw_take T) (F_lw_take T).kp (B_lw_take T) .nil pass0 (pa_cons (pv 0) (pa_cons (pe_callB call_len rfl (b_len T) bt_len (pa_cons (pv 1) (pa_nil))) (pa_nil)))) (fun _ _ => rfl)))

theorem ok_lw_size (T : Tx w K mg) : FnOk P w K mg base CX0 3 (He.fAd K d_lw_size.at_) (fd_lw_size T) ["bag"] (sp_lw_size K) := by
  refine (F_lw_size T).ok sc_lw_size (fun vs H Q E h => Sp1.len h) (fun cdv A outer s H vs Q E hr h => ⟨t_lw_size K, PSs.nox ?_, rd_lw_size T.cf h⟩)
  exact pss_cons (ps_set (i := 1) sc_lw_size.nd rfl (Or.inl rfl) (pe_call (ok_lw_take T) (hr.mono (by omega)) rfl (g_lw_take T) (F_lw_take T).kp (B_lw_take T) .nil pass0 (pa_cons (pv 0) (pa_cons (pe_int) (pa_nil)))))
            (pss_cons (ps_if (pt_cmpR op_lt (pv 1) (pe_int) (nomark _)) (pss_one (ps_ret (pe_call (ok_lw_take T) (hr.mono (by omega)) rfl (g_lw_take T) (F_lw_take T).kp (B_lw_take T) .nil pass0 (pa_cons (pv 0) (pa_cons (pe_int) (pa_nil)))))) (pss_nil))
            (pss_cons (ps_if (pt_cmpR op_eq (pv 1) (pe_int) (nomark _)) (pss_one (ps_ret (pe_call (ok_lw_pick T) (hr.mono (by omega)) rfl (g_lw_pick T) (F_lw_pick T).kp (B_lw_pick T) .nil pass0 (pa_cons (pv 0) (pa_cons (pe_lst (pa_cons (pe_int) (pa_cons (pe_int) (pa_cons (pe_int) (pa_cons (pe_int) (pa_cons (pe_int) (pa_nil))))))) (pa_nil)))))) (pss_nil))
            (pss_cons (ps_if (pt_cmpR op_eq (pv 1) (pe_int) (nomark _)) (pss_one (ps_ret (pe_call (ok_lw_pick T) (hr.mono (by omega)) rfl (g_lw_pick T) (F_lw_pick T).kp (B_lw_pick T) .nil pass0 (pa_cons (pv 0) (pa_cons (pe_lst (pa_cons (pe_int) (pa_cons (pe_int) (pa_cons (pe_int) (pa_cons (pe_int) (pa_cons (pe_int) (pa_nil))))))) (pa_nil)))))) (pss_nil))
            (pss_one (ps_ret (pe_call (ok_lw_take T) (hr.mono (by omega)) rfl (g_lw_take T) (F_lw_take T).kp (B_lw_take T) .nil pass0 (pa_cons (pv 0) (pa_cons (pe_ix ix_list (pe_lst (pa_cons (pe_int) (pa_cons (pe_int) (pa_cons (pe_int) (pa_nil))))) (pe_op op_sub (pv 1) (pe_int)) (fun _ _ => rfl)) (pa_nil)))))))))

theorem ok_lw_thing (T : Tx w K mg) : FnOk P w K mg base CX0 4 (He.fAd K d_lw_thing.at_) (fd_lw_thing T) ["bag", "kind"] (sp_lw_thing K) := by
  refine (F_lw_thing T).ok sc_lw_thing (fun vs H Q E h => Sp2.len h) (fun cdv A outer s H vs Q E hr h => ⟨t_lw_thing K, PSs.nox ?_, rd_lw_thing T.cf h⟩)
  exact pss_cons (ps_if (pt_cmpR op_eq (pv 1) (pe_int) (nomark _)) (pss_one (ps_ret (pe_tup (pa_cons (pe_call (ok_lw_size T) (hr.mono (by omega)) rfl (g_lw_size T) (F_lw_size T).kp (B_lw_size T) .nil pass0 (pa_cons (pv 0) (pa_nil))) (pa_cons (pe_cmpR op_eq (pe_call (ok_lw_take T) (hr.mono (by omega)) rfl (g_lw_take T) (F_lw_take T).kp (B_lw_take T) .nil pass0 (pa_cons (pv 0) (pa_cons (pe_int) (pa_nil)))) (pe_int) (nomark _)) (pa_nil)))))) (pss_nil))
            (pss_cons (ps_if (pt_cmpR op_ne (pv 1) (pe_int) (nomark _)) (pss_one (ps_ret (pe_call (ok_lw_size T) (hr.mono (by omega)) rfl (g_lw_size T) (F_lw_size T).kp (B_lw_size T) .nil pass0 (pa_cons (pv 0) (pa_nil))))) (pss_nil))
            (pss_cons (ps_set (i := 2) sc_lw_thing.nd rfl (Or.inl rfl) (pe_call (ok_lw_pick T) (hr.mono (by omega)) rfl (g_lw_pick T) (F_lw_pick T).kp (B_lw_pick T) .nil pass0 (pa_cons (pv 0) (pa_cons (pe_lst (pa_cons (pe_str) (pa_cons (pe_str) (pa_cons (pe_str) (pa_cons (pe_str) (pa_cons (pe_str) (pa_cons (pe_str) (pa_cons (pe_str) (pa_cons (pe_str) (pa_cons (pe_str) (pa_cons (pe_str) (pa_cons (pe_str) (pa_nil))))))))))))) (pa_nil)))))
            (pss_cons (ps_if (pt_cmpR op_eq (pv 2) (pe_str) (nomark _)) (pss_one (ps_ret (pe_tup (pa_cons (pv 2) (pa_cons (pe_call (ok_lw_size T) (hr.mono (by omega)) rfl (g_lw_size T) (F_lw_size T).kp (B_lw_size T) .nil pass0 (pa_cons (pv 0) (pa_nil))) (pa_cons (pe_call (ok_lw_size T) (hr.mono (by omega)) rfl (g_lw_size T) (F_lw_size T).kp (B_lw_size T) .nil pass0 (pa_cons (pv 0) (pa_nil))) (pa_nil))))))) (pss_nil))
            (pss_cons (ps_if (pt_cmpR op_ne (pv 2) (pe_str) (nomark _)) (pss_one (ps_ret (pe_tup (pa_cons (pv 2) (pa_cons (pe_call (ok_lw_size T) (hr.mono (by omega)) rfl (g_lw_size T) (F_lw_size T).kp (B_lw_size T) .nil pass0 (pa_cons (pv 0) (pa_nil))) (pa_nil)))))) (pss_nil))
            (pss_cons (ps_set (i := 3) sc_lw_thing.nd rfl (Or.inl rfl) (pe_lst (pa_cons (pe_str) (pa_cons (pe_str) (pa_cons (pe_str) (pa_cons (pe_str) (pa_cons (pe_str) (pa_cons (pe_str) (pa_cons (pe_str) (pa_cons (pe_str) (pa_cons (pe_str) (pa_cons (pe_str) (pa_cons (pe_str) (pa_cons (pe_str) (pa_cons (pe_str) (pa_cons (pe_str) (pa_cons (pe_str) (pa_cons (pe_str) (pa_cons (pe_str) (pa_nil))))))))))))))))))))
            (pss_one (ps_ret (pe_tup (pa_cons (pe_call (ok_lw_pick T) (hr.mono (by omega)) rfl (g_lw_pick T) (F_lw_pick T).kp (B_lw_pick T) .nil pass0 (pa_cons (pv 0) (pa_cons (pv 3) (pa_nil)))) (pa_nil))))))))))

theorem ok_lw_row (T : Tx w K mg) : FnOk P w K mg base CX0 5 (He.fAd K d_lw_row.at_) (fd_lw_row T) ["bag", "kind", "large", "most"] (sp_lw_row K) := by
  refine (F_lw_row T).ok sc_lw_row (fun vs H Q E h => Sp4.len h) (fun cdv A outer s H vs Q E hr h => ⟨t_lw_row K, PSs.nox ?_, rd_lw_row T.cf h⟩)
  exact pss_cons (ps_set (i := 4) sc_lw_row.nd rfl (Or.inl rfl) (pe_call (ok_lw_take T) (hr.mono (by omega)) rfl (g_lw_take T) (F_lw_take T).kp (B_lw_take T) .nil pass0 (pa_cons (pv 0) (pa_cons (pe_op op_add (pv 3) (pe_int)) (pa_nil)))))
            (Evl.pss_cut (ps_if (pt_cmpR op_eq (pv 1) (pv 2) (nomark _)) (pss_one (ps_set (i := 4) sc_lw_row.nd rfl (Or.inl rfl) (pe_call (ok_lw_pick T) (hr.mono (by omega)) rfl (g_lw_pick T) (F_lw_pick T).kp (B_lw_pick T) .nil pass0 (pa_cons (pv 0) (pa_cons (pe_lst (pa_cons (pe_int) (pa_cons (pe_int) (pa_cons (pe_int) (pa_cons (pe_int) (pa_nil)))))) (pa_nil)))))) (pss_nil))
            (pss_cons (ps_set (i := 5) sc_lw_row.nd rfl (Or.inl rfl) (pe_lst (pa_nil)))
            (pss_cons (ps_for PassesOwn.never rfl (pi_range1 rfl (b_range T) (pa_cons (pv 4) (pa_nil))) (pg_name (i := 6) sc_lw_row.nd rfl (Or.inl rfl)) (pss_one (ps_if (pt_cmpR op_lt (pv 6) (pe_int) (nomark _)) (pss_one (ps_expr (pe_bm PySem.F.plainAttrs_list PySem.F.slot_list_append PySem.F.type_list_append mt_append (pv 5) (pa_cons (pe_call (ok_lw_thing T) (hr.mono (by omega)) rfl (g_lw_thing T) (F_lw_thing T).kp (B_lw_thing T) .nil pass0 (pa_cons (pv 0) (pa_cons (pv 1) (pa_nil)))) (pa_nil))))) (pss_one (ps_expr (pe_bm PySem.F.plainAttrs_list PySem.F.slot_list_append PySem.F.type_list_append mt_append (pv 5) (pa_cons (pe_ix ix_list (pv 5) (pe_op op_modN (pe_callTy call_int1 rfl (b_int T) bt_int (pa_cons (pv 6) (pa_nil))) (pe_int)) (fun _ _ => rfl)) (pa_nil))))))))
            (pss_one (ps_ret (pe_callTy call_tuple_of rfl (b_tuple T) bt_tuple (pa_cons (pv 5) (pa_nil))))))))

theorem ok_lw_rows (T : Tx w K mg) : FnOk P w K mg base CX0 6 (He.fAd K d_lw_rows.at_) (fd_lw_rows T) ["bag", "kind", "large"] (sp_lw_rows K) := by
  refine (F_lw_rows T).ok sc_lw_rows (fun vs H Q E h => Sp3.len h) (fun cdv A outer s H vs Q E hr h => ⟨t_lw_rows K, PSs.nox ?_, rd_lw_rows T.cf h⟩)
  exact pss_cons (ps_set (i := 3) sc_lw_rows.nd rfl (Or.inl rfl) (pe_call (ok_lw_take T) (hr.mono (by omega)) rfl (g_lw_take T) (F_lw_take T).kp (B_lw_take T) .nil pass0 (pa_cons (pv 0) (pa_cons (pe_int) (pa_nil)))))
            (Evl.pss_cut (ps_if (pt_cmpR op_eq (pv 1) (pv 2) (nomark _)) (pss_one (ps_set (i := 3) sc_lw_rows.nd rfl (Or.inl rfl) (pe_call (ok_lw_pick T) (hr.mono (by omega)) rfl (g_lw_pick T) (F_lw_pick T).kp (B_lw_pick T) .nil pass0 (pa_cons (pv 0) (pa_cons (pe_lst (pa_cons (pe_int) (pa_cons (pe_int) (pa_cons (pe_int) (pa_cons (pe_int) (pa_nil)))))) (pa_nil)))))) (pss_nil))
            (pss_cons (ps_set (i := 4) sc_lw_rows.nd rfl (Or.inl rfl) (pe_lst (pa_nil)))
            (pss_cons (ps_for PassesOwn.never rfl (pi_range1 rfl (b_range T) (pa_cons (pv 3) (pa_nil))) (pg_name (i := 5) sc_lw_rows.nd rfl (Or.inl rfl)) (pss_one (ps_if (pt_cmpR op_lt (pv 5) (pe_int) (nomark _)) (pss_one (ps_expr (pe_bm PySem.F.plainAttrs_list PySem.F.slot_list_append PySem.F.type_list_append mt_append (pv 4) (pa_cons (pe_call (ok_lw_row T) (hr.mono (by omega)) rfl (g_lw_row T) (F_lw_row T).kp (B_lw_row T) .nil pass0 (pa_cons (pv 0) (pa_cons (pe_op op_add (pv 1) (pe_int)) (pa_cons (pv 2) (pa_cons (pe_ix ix_list (pe_lst (pa_cons (pe_int) (pa_cons (pe_int) (pa_cons (pe_int) (pa_cons (pe_int) (pa_cons (pe_int) (pa_nil))))))) (pv 1) (fun _ _ => rfl)) (pa_nil)))))) (pa_nil))))) (pss_one (ps_expr (pe_bm PySem.F.plainAttrs_list PySem.F.slot_list_append PySem.F.type_list_append mt_append (pv 4) (pa_cons (pe_ix ix_list (pv 4) (pe_op op_modN (pe_callTy call_int1 rfl (b_int T) bt_int (pa_cons (pv 5) (pa_nil))) (pe_int)) (fun _ _ => rfl)) (pa_nil))))))))
            (pss_one (ps_ret (pv 4))))))

theorem ok_lw_image (T : Tx w K mg) : FnOk P w K mg base CX0 7 (He.fAd K d_lw_image.at_) (fd_lw_image T) ["bag"] (sp_lw_image K) := by
  refine (F_lw_image T).ok sc_lw_image (fun vs H Q E h => Sp1.len h) (fun cdv A outer s H vs Q E hr h => ⟨t_lw_image K, PSs.nox ?_, rd_lw_image T.cf h⟩)
  exact pss_cons (ps_set (i := 1) sc_lw_image.nd rfl (Or.inl rfl) (pe_call (ok_lw_take T) (hr.mono (by omega)) rfl (g_lw_take T) (F_lw_take T).kp (B_lw_take T) .nil pass0 (pa_cons (pv 0) (pa_cons (pe_int) (pa_nil)))))
            (pss_cons (ps_set (i := 2) sc_lw_image.nd rfl (Or.inl rfl) (pe_call (ok_lw_rows T) (hr.mono (by omega)) rfl (g_lw_rows T) (F_lw_rows T).kp (B_lw_rows T) .nil pass0 (pa_cons (pv 0) (pa_cons (pe_int) (pa_cons (pv 1) (pa_nil))))))
            (pss_cons (ps_setLc (i := 3) (own := [(("code" : Str), 5)]) (by rfl) sc_lw_image.nd rfl rfl (sw_true rfl rfl rfl (by decide +kernel)) (pi_list (pe_call (ok_lw_rows T) (hr.mono (by omega)) rfl (g_lw_rows T) (F_lw_rows T).kp (B_lw_rows T) .nil pass0 (pa_cons (pv 0) (pa_cons (pe_int) (pa_cons (pv 1) (pa_nil)))))) (blkOk_by (own := [(("code" : Str), 5)]) (N := [("bag" : Str), ("large" : Str), ("tables" : Str), ("segments" : Str), ("plan" : Str), ("code" : Str)]) (sc := defScope s_lw_image) (by decide +kernel)) (fun _ _ _ _ _ => pg_name (i := 5) sc_lw_image.nd rfl (Or.inl rfl)) (fun _ _ _ _ _ => pts_nil) (fun _ _ _ _ _ => pe_tup (pa_cons (pe_call (ok_lw_size T) (hr.mono (by omega)) rfl (g_lw_size T) (F_lw_size T).kp (B_lw_size T) .nil pass0 (pa_cons (pv 0) (pa_nil))) (pa_cons (pv 5) (pa_nil)))))
            (pss_cons (ps_set (i := 4) sc_lw_image.nd rfl (Or.inl rfl) (pe_call (ok_lw_rows T) (hr.mono (by omega)) rfl (g_lw_rows T) (F_lw_rows T).kp (B_lw_rows T) .nil pass0 (pa_cons (pv 0) (pa_cons (pe_int) (pa_cons (pv 1) (pa_nil))))))
            (pss_one (ps_ret (pe_tup (pa_cons (pe_callTy call_tuple_of rfl (b_tuple T) bt_tuple (pa_cons (pv 2) (pa_nil))) (pa_cons (pe_callTy call_tuple_of rfl (b_tuple T) bt_tuple (pa_cons (pv 3) (pa_nil))) (pa_cons (pe_callTy call_tuple_of rfl (b_tuple T) bt_tuple (pa_cons (pv 4) (pa_nil))) (pa_nil))))))))))

theorem ok_lw_groups (T : Tx w K mg) : FnOk P w K mg base CX0 1 (He.fAd K d_lw_groups.at_) (fd_lw_groups T) ["n"] (sp_lw_groups K) := by
  refine (F_lw_groups T).ok sc_lw_groups (fun vs H Q E h => Sp1.len h) (fun cdv A outer s H vs Q E hr h => ⟨t_lw_groups K, PSs.nox ?_, rd_lw_groups T.cf h⟩)
  exact pss_cons (ps_set (i := 1) sc_lw_groups.nd rfl (Or.inl rfl) (pe_lst (pa_nil)))
            (pss_cons (ps_for PassesOwn.never rfl (pi_range1 rfl (b_range T) (pa_cons (pe_int) (pa_nil))) (pg_name (i := 2) sc_lw_groups.nd rfl (Or.inl rfl)) (pss_one (ps_if (pt_cmpR op_ge (pv 0) (pe_int) (nomark _)) (pss_cons (ps_expr (pe_bm PySem.F.plainAttrs_list PySem.F.slot_list_append PySem.F.type_list_append mt_append (pv 1) (pa_cons (pe_op op_add (pe_op op_modN (pe_callTy call_int1 rfl (b_int T) bt_int (pa_cons (pv 0) (pa_nil))) (pe_int)) (pe_int)) (pa_nil))))
            (pss_one (ps_set (i := 0) sc_lw_groups.nd rfl (Or.inl rfl) (pe_op op_fdivN (pv 0) (pe_int))))) (pss_one (ps_ret (pe_op op_cat (pv 1) (pe_lst (pa_cons (pv 0) (pa_nil)))))))))
            (pss_one (ps_ret (pv 1))))

theorem ok_lw_bytes (T : Tx w K mg) : FnOk P w K mg base CX0 2 (He.fAd K d_lw_bytes.at_) (fd_lw_bytes T) ["image"] (sp_lw_bytes K) := by
  refine (F_lw_bytes T).ok sc_lw_bytes (fun vs H Q E h => Sp1.len h) (fun cdv A outer s H vs Q E hr h => ⟨t_lw_bytes K, PSs.nox ?_, rd_lw_bytes T.cf h⟩)
  exact pss_cons (ps_set (i := 1) sc_lw_bytes.nd rfl (Or.inl rfl) (pe_lst (pa_cons (pe_str) (pa_cons (pe_str) (pa_cons (pe_str) (pa_cons (pe_str) (pa_cons (pe_str) (pa_cons (pe_str) (pa_cons (pe_str) (pa_cons (pe_str) (pa_cons (pe_str) (pa_cons (pe_str) (pa_cons (pe_str) (pa_cons (pe_str) (pa_cons (pe_str) (pa_cons (pe_str) (pa_cons (pe_str) (pa_cons (pe_str) (pa_nil)))))))))))))))))))
            (pss_cons (ps_set (i := 1) sc_lw_bytes.nd rfl (Or.inl rfl) (pe_op op_cat (pv 1) (pe_lst (pa_cons (pe_str) (pa_cons (pe_str) (pa_cons (pe_str) (pa_cons (pe_str) (pa_cons (pe_str) (pa_cons (pe_str) (pa_cons (pe_str) (pa_cons (pe_str) (pa_cons (pe_str) (pa_nil)))))))))))))
            (pss_cons (ps_set (i := 2) sc_lw_bytes.nd rfl (Or.inl rfl) (pe_lst (pa_cons (pe_callB call_len rfl (b_len T) bt_len (pa_cons (pe_ix ix_tup (pv 0) (pe_int) (fun _ _ => rfl)) (pa_nil))) (pa_nil))))
            (pss_cons (ps_for PassesOwn.never rfl (pi_tup (pe_ix ix_tup (pv 0) (pe_int) (fun _ _ => rfl))) (pg_name (i := 3) sc_lw_bytes.nd rfl (Or.inl rfl)) (pss_cons (ps_expr (pe_bm PySem.F.plainAttrs_list PySem.F.slot_list_append PySem.F.type_list_append mt_append (pv 2) (pa_cons (pe_callB call_len rfl (b_len T) bt_len (pa_cons (pv 3) (pa_nil))) (pa_nil))))
            (pss_one (ps_for PassesOwn.never rfl (pi_tup (pv 3)) (pg_name (i := 4) sc_lw_bytes.nd rfl (Or.inl rfl)) (pss_one (ps_expr (pe_bm PySem.F.plainAttrs_list PySem.F.slot_list_extend PySem.F.type_list_extend mt_extend (pv 2) (pa_cons (pe_lst (pa_cons (pe_ix ix_tup (pv 4) (pe_int) (fun _ _ => rfl)) (pa_cons (pe_callTy call_int1 rfl (b_int T) bt_int (pa_cons (pe_ix ix_tup (pv 4) (pe_int) (fun _ _ => rfl)) (pa_nil))) (pa_nil)))) (pa_nil)))))))))
            (pss_cons (ps_expr (pe_bm PySem.F.plainAttrs_list PySem.F.slot_list_append PySem.F.type_list_append mt_append (pv 2) (pa_cons (pe_callB call_len rfl (b_len T) bt_len (pa_cons (pe_ix ix_tup (pv 0) (pe_int) (fun _ _ => rfl)) (pa_nil))) (pa_nil))))
            (pss_cons (ps_for PassesOwn.never rfl (pi_tup (pe_ix ix_tup (pv 0) (pe_int) (fun _ _ => rfl))) (pg_name (i := 5) sc_lw_bytes.nd rfl (Or.inl rfl)) (pss_cons (ps_expr (pe_bm PySem.F.plainAttrs_list PySem.F.slot_list_extend PySem.F.type_list_extend mt_extend (pv 2) (pa_cons (pe_lst (pa_cons (pe_ix ix_tup (pv 5) (pe_int) (fun _ _ => rfl)) (pa_cons (pe_callB call_len rfl (b_len T) bt_len (pa_cons (pe_ix ix_tup (pv 5) (pe_int) (fun _ _ => rfl)) (pa_nil))) (pa_nil)))) (pa_nil))))
            (pss_one (ps_for PassesOwn.never rfl (pi_tup (pe_ix ix_tup (pv 5) (pe_int) (fun _ _ => rfl))) (pg_name (i := 6) sc_lw_bytes.nd rfl (Or.inl rfl)) (pss_cons (ps_expr (pe_bm PySem.F.plainAttrs_list PySem.F.slot_list_append PySem.F.type_list_append mt_append (pv 2) (pa_cons (pe_bm PySem.F.plainAttrs_list PySem.F.slot_list_index PySem.F.type_list_index mt_indexL (pv 1) (pa_cons (pe_ix ix_tup (pv 6) (pe_int) (fun _ _ => rfl)) (pa_nil))) (pa_nil))))
            (pss_one (ps_expr (pe_bm PySem.F.plainAttrs_list PySem.F.slot_list_extend PySem.F.type_list_extend mt_extendT (pv 2) (pa_cons (pe_slice L2.sl_tupA (pv 6) (po_some (pe_int)) (po_none)) (pa_nil))))))))))
            (pss_cons (ps_expr (pe_bm PySem.F.plainAttrs_list PySem.F.slot_list_append PySem.F.type_list_append mt_append (pv 2) (pa_cons (pe_callB call_len rfl (b_len T) bt_len (pa_cons (pe_ix ix_tup (pv 0) (pe_int) (fun _ _ => rfl)) (pa_nil))) (pa_nil))))
            (pss_cons (ps_for PassesOwn.never rfl (pi_tup (pe_ix ix_tup (pv 0) (pe_int) (fun _ _ => rfl))) (pg_name (i := 7) sc_lw_bytes.nd rfl (Or.inl rfl)) (pss_cons (ps_expr (pe_bm PySem.F.plainAttrs_list PySem.F.slot_list_append PySem.F.type_list_append mt_append (pv 2) (pa_cons (pe_callB call_len rfl (b_len T) bt_len (pa_cons (pv 7) (pa_nil))) (pa_nil))))
            (pss_one (ps_expr (pe_bm PySem.F.plainAttrs_list PySem.F.slot_list_extend PySem.F.type_list_extend mt_extendT (pv 2) (pa_cons (pv 7) (pa_nil)))))))
            (pss_cons (ps_set (i := 8) sc_lw_bytes.nd rfl (Or.inl rfl) (pe_lst (pa_cons (pe_int) (pa_nil))))
            (pss_cons (ps_for PassesOwn.never rfl (pi_list (pv 2)) (pg_name (i := 9) sc_lw_bytes.nd rfl (Or.inl rfl)) (pss_one (ps_expr (pe_bm PySem.F.plainAttrs_list PySem.F.slot_list_extend PySem.F.type_list_extend mt_extend (pv 8) (pa_cons (pe_call (ok_lw_groups T) (hr.mono (by omega)) rfl (g_lw_groups T) (F_lw_groups T).kp (B_lw_groups T) .nil pass0 (pa_cons (pv 9) (pa_nil))) (pa_nil))))))
            (pss_one (ps_ret (pe_op op_cat (pv 8) (pe_lst (pa_cons (pe_op op_modN (pe_callTy call_int1 rfl (b_int T) bt_int (pa_cons (pe_callB (cr_sum rfl) rfl (b_sum T) bt_sum (pa_cons (pv 8) (pa_nil))) (pa_nil))) (pe_int)) (pa_nil)))))))))))))))

theorem ok_lw_same (T : Tx w K mg) : ∀ n : Nat, FnOk P w K mg base CX0 (n + 1) (He.fAd K d_lw_same.at_) (fd_lw_same T) ["got", "due"] (sp_lw_same K n)
  | 0 => (F_lw_same T).ok (k := 0) sc_lw_same (fun _ _ _ _ h => h.elim) (fun _ _ _ _ _ _ _ _ _ h => h.elim)
  | n + 1 => by
    have ih := ok_lw_same T n
    have e : n + 1 + 1 = (n + 1) + 1 := by omega
    rw [e]
    refine (F_lw_same T).ok sc_lw_same (fun vs H Q E h => by obtain ⟨_, _, rfl, _⟩ := h; rfl) (fun cdv A outer s H vs Q E hr h => ⟨t_lw_same K n, PSs.nox ?_, rd_lw_same T.cf n h⟩)
    exact pss_cons (ps_if (PW.pt (pw_or (pt_val (pe_callB call_isi rfl (b_isinstance T) bt_isinstance (pa_cons (pv 1) (pa_cons (pe_bltn rfl (b_tuple T) bt_tuple rfl) (pa_nil))))) (pw_or1 (pt_val (pe_callB call_isi rfl (b_isinstance T) bt_isinstance (pa_cons (pv 1) (pa_cons (pe_bltn rfl (b_list T) bt_list rfl) (pa_nil)))))))) (pss_cons (ps_if (PW.pt (pw_or (pt_cmpR op_ne (pe_callB call_isi rfl (b_isinstance T) bt_isinstance (pa_cons (pv 1) (pa_cons (pe_bltn rfl (b_tuple T) bt_tuple rfl) (pa_nil)))) (pe_callB call_isi rfl (b_isinstance T) bt_isinstance (pa_cons (pv 0) (pa_cons (pe_bltn rfl (b_tuple T) bt_tuple rfl) (pa_nil)))) (nomark _)) (pw_or1 (pt_cmpR op_ne (pe_callB call_isi rfl (b_isinstance T) bt_isinstance (pa_cons (pv 1) (pa_cons (pe_bltn rfl (b_list T) bt_list rfl) (pa_nil)))) (pe_callB call_isi rfl (b_isinstance T) bt_isinstance (pa_cons (pv 0) (pa_cons (pe_bltn rfl (b_list T) bt_list rfl) (pa_nil)))) (nomark _))))) (pss_one (ps_ret (pe_bl))) (pss_nil))
            (pss_cons (ps_if (pt_cmpR op_ne (pe_callB call_len rfl (b_len T) bt_len (pa_cons (pv 0) (pa_nil))) (pe_callB call_len rfl (b_len T) bt_len (pa_cons (pv 1) (pa_nil))) (nomark _)) (pss_one (ps_ret (pe_bl))) (pss_nil))
            (pss_cons (ps_for PassesOwn.never rfl (pi_range1 rfl (b_range T) (pa_cons (pe_callB call_len rfl (b_len T) bt_len (pa_cons (pv 1) (pa_nil))) (pa_nil))) (pg_name (i := 2) sc_lw_same.nd rfl (Or.inl rfl)) (pss_one (ps_if (pt_not (pt_val (pe_call (ih) (hr.mono (by omega)) rfl (g_lw_same T) (F_lw_same T).kp (B_lw_same T) .nil pass0 (pa_cons (pe_ix ix_seq (pv 0) (pv 2) (fun _ _ => rfl)) (pa_cons (pe_ix ix_seq (pv 1) (pv 2) (fun _ _ => rfl)) (pa_nil)))))) (pss_one (ps_ret (pe_bl))) (pss_nil))))
            (pss_one (ps_ret (pe_bl)))))) (pss_nil))
            (pss_cons (ps_if (PW.pt (pw_or (pt_val (pe_callB call_isi rfl (b_isinstance T) bt_isinstance (pa_cons (pv 1) (pa_cons (pe_bltn rfl (b_bool T) bt_bool rfl) (pa_nil))))) (pw_or1 (pt_val (pe_callB call_isi rfl (b_isinstance T) bt_isinstance (pa_cons (pv 0) (pa_cons (pe_bltn rfl (b_bool T) bt_bool rfl) (pa_nil)))))))) (pss_one (ps_ret (pe_and (pe_callB call_isi rfl (b_isinstance T) bt_isinstance (pa_cons (pv 1) (pa_cons (pe_bltn rfl (b_bool T) bt_bool rfl) (pa_nil)))) (pe_and (pe_callB call_isi rfl (b_isinstance T) bt_isinstance (pa_cons (pv 0) (pa_cons (pe_bltn rfl (b_bool T) bt_bool rfl) (pa_nil)))) (pe_one (pe_cmpR op_eq (pv 0) (pv 1) (nomark _))))))) (pss_nil))
            (pss_cons (ps_if (pt_val (pe_callB call_isi rfl (b_isinstance T) bt_isinstance (pa_cons (pv 1) (pa_cons (pe_bltn rfl (b_int T) bt_int rfl) (pa_nil))))) (pss_one (ps_ret (pe_and (pe_callB call_isi rfl (b_isinstance T) bt_isinstance (pa_cons (pv 0) (pa_cons (pe_bltn rfl (b_int T) bt_int rfl) (pa_nil)))) (pe_one (pe_cmpR op_eq (pv 0) (pv 1) (nomark _)))))) (pss_nil))
            (pss_cons (ps_if (pt_val (pe_callB call_isi rfl (b_isinstance T) bt_isinstance (pa_cons (pv 1) (pa_cons (pe_bltn rfl (b_str T) bt_str rfl) (pa_nil))))) (pss_one (ps_ret (pe_and (pe_callB call_isi rfl (b_isinstance T) bt_isinstance (pa_cons (pv 0) (pa_cons (pe_bltn rfl (b_str T) bt_str rfl) (pa_nil)))) (pe_one (pe_cmpR op_eq (pv 0) (pv 1) (nomark _)))))) (pss_nil))
            (pss_one (ps_ret (pe_and (pe_cmpR op_isN (pv 0) (pe_non) (nomark _)) (pe_one (pe_cmpR op_isN (pv 1) (pe_non) (nomark _)))))))))

theorem ok_law (T : Tx w K mg) : FnOk P w K mg base CX0 11 (He.fAd K d_law.at_) (fd_law T) ["script"] (sp_law K) := by
  refine (F_law T).ok sc_law (fun vs H Q E h => Sp1.len h) (fun cdv A outer s H vs Q E hr h => ⟨t_law K, PSs.nox ?_, rd_law T.cf h⟩)
  exact pss_cons (ps_set (i := 1) sc_law.nd rfl (Or.inl rfl) (pe_lst (pa_nil)))
            (pss_cons (ps_for PassesOwn.never rfl (pi_range1 rfl (b_range T) (pa_cons (pe_int) (pa_nil))) (pg_name (i := 2) sc_law.nd rfl (Or.inl rfl)) (pss_cons (ps_set (i := 3) sc_law.nd rfl (Or.inl rfl) (pe_call (ok_lw_image T) (hr.mono (by omega)) rfl (g_lw_image T) (F_lw_image T).kp (B_lw_image T) .nil pass0 (pa_cons (pe_call (ok_lw_bag T) (hr.mono (by omega)) rfl (g_lw_bag T) (F_lw_bag T).kp (B_lw_bag T) .nil pass0 (pa_cons (pv 0) (pa_cons (pv 2) (pa_nil)))) (pa_nil))))
            (pss_one (ps_expr (pe_bm PySem.F.plainAttrs_list PySem.F.slot_list_append PySem.F.type_list_append mt_append (pv 1) (pa_cons (pe_tup (pa_cons (pv 3) (pa_cons (pe_call (ok_lw_bytes T) (hr.mono (by omega)) rfl (g_lw_bytes T) (F_lw_bytes T).kp (B_lw_bytes T) .nil pass0 (pa_cons (pv 3) (pa_nil))) (pa_nil)))) (pa_nil)))))))
            (pss_cons (ps_for PassesOwn.never rfl (pi_range1 rfl (b_range T) (pa_cons (pe_int) (pa_nil))) (pg_name (i := 2) sc_law.nd rfl (Or.inl rfl)) (pss_cons (ps_set (i := 3) sc_law.nd rfl (Or.inl rfl) (pe_ix ix_tup (pe_ix ix_list (pv 1) (pv 2) (fun _ _ => rfl)) (pe_int) (fun _ _ => rfl)))
            (pss_cons (ps_set (i := 4) sc_law.nd rfl (Or.inl rfl) (pe_ix ix_tup (pe_ix ix_list (pv 1) (pv 2) (fun _ _ => rfl)) (pe_int) (fun _ _ => rfl)))
            (pss_cons (ps_set (i := 5) sc_law.nd rfl (Or.inl rfl) (pe_call (ok_pack_image T) (hr.mono (by omega)) rfl (g_pack_image T) (F_pack_image T).kp (B_pack_image T) .nil pass0 (pa_cons (pv 3) (pa_nil))))
            (pss_cons (ps_if (pt_not (pt_val (pe_call (ok_lw_same T 9) (hr.mono (by omega)) rfl (g_lw_same T) (F_lw_same T).kp (B_lw_same T) .nil pass0 (pa_cons (pv 5) (pa_cons (pv 4) (pa_nil)))))) (pss_one (ps_ret (pe_bl))) (pss_nil))
            (pss_cons (ps_expr (pe_bm PySem.F.plainAttrs_list PySem.F.slot_list_append PySem.F.type_list_append mt_append (pv 5) (pa_cons (pe_int) (pa_nil))))
            (pss_cons (ps_asg (pe_int) (pg_sub (pv 5) (pe_int) set_list))
            (pss_cons (ps_if (pt_not (pt_val (pe_call (ok_lw_same T 9) (hr.mono (by omega)) rfl (g_lw_same T) (F_lw_same T).kp (B_lw_same T) .nil pass0 (pa_cons (pe_call (ok_pack_image T) (hr.mono (by omega)) rfl (g_pack_image T) (F_pack_image T).kp (B_pack_image T) .nil pass0 (pa_cons (pv 3) (pa_nil))) (pa_cons (pv 4) (pa_nil)))))) (pss_one (ps_ret (pe_bl))) (pss_nil))
            (pss_cons (ps_set (i := 6) sc_law.nd rfl (Or.inl rfl) (pe_callTy call_list_of rfl (b_list T) bt_list (pa_cons (pv 4) (pa_nil))))
            (pss_cons (ps_if (PW.pt (pw_or (pt_not (pt_val (pe_call (ok_lw_same T 9) (hr.mono (by omega)) rfl (g_lw_same T) (F_lw_same T).kp (B_lw_same T) .nil pass0 (pa_cons (pe_call (ok_unpack_image T) (hr.mono (by omega)) rfl (g_unpack_image T) (F_unpack_image T).kp (B_unpack_image T) .nil pass0 (pa_cons (pv 6) (pa_nil))) (pa_cons (pv 3) (pa_nil)))))) (pw_or1 (pt_not (pt_val (pe_call (ok_lw_same T 9) (hr.mono (by omega)) rfl (g_lw_same T) (F_lw_same T).kp (B_lw_same T) .nil pass0 (pa_cons (pv 6) (pa_cons (pv 4) (pa_nil))))))))) (pss_one (ps_ret (pe_bl))) (pss_nil))
            (pss_one (ps_expr (pe_bm PySem.F.plainAttrs_list PySem.F.slot_list_append PySem.F.type_list_append mt_append (pv 6) (pa_cons (pe_int) (pa_nil)))))))))))))))
            (pss_one (ps_ret (pe_and (pe_call (ok_lw_same T 9) (hr.mono (by omega)) rfl (g_lw_same T) (F_lw_same T).kp (B_lw_same T) .nil pass0 (pa_cons (pe_call (ok_pack_image T) (hr.mono (by omega)) rfl (g_pack_image T) (F_pack_image T).kp (B_pack_image T) .nil pass0 (pa_cons (pe_ix ix_tup (pe_ix ix_list (pv 1) (pe_int) (fun _ _ => rfl)) (pe_int) (fun _ _ => rfl)) (pa_nil))) (pa_cons (pe_ix ix_tup (pe_ix ix_list (pv 1) (pe_int) (fun _ _ => rfl)) (pe_int) (fun _ _ => rfl)) (pa_nil)))) (pe_one (pe_call (ok_lw_same T 9) (hr.mono (by omega)) rfl (g_lw_same T) (F_lw_same T).kp (B_lw_same T) .nil pass0 (pa_cons (pe_call (ok_unpack_image T) (hr.mono (by omega)) rfl (g_unpack_image T) (F_unpack_image T).kp (B_unpack_image T) .nil pass0 (pa_cons (pe_callTy call_list_of rfl (b_list T) bt_list (pa_cons (pe_ix ix_tup (pe_ix ix_list (pv 1) (pe_int) (fun _ _ => rfl)) (pe_int) (fun _ _ => rfl)) (pa_nil))) (pa_nil))) (pa_cons (pe_ix ix_tup (pe_ix ix_list (pv 1) (pe_int) (fun _ _ => rfl)) (pe_int) (fun _ _ => rfl)) (pa_nil))))))))))

def obR (s : PySem.W.SharedT) : He.AlT × Bool := obsRG 4 fa fn ts xb (HandSHeadRun.getT s)
abbrev hk : PySem.W.Hook := hookR 4 fa fn ts xb
theorem obR_eq (s : PySem.W.SharedT) : obR s = hk.obs s.abs := obsRG_eq (HandSHeadRun.getT_eq s)
abbrev RR : PySem.W.OpenRow := PySem.W.OpenLaw.row PySem.Challenge.rw_rungstead_k48_bytes_and_back

def nms : List Str := ["OPERATIONS", "ARGUMENTS", "argument_count", "RungError", "ImageError", "HEAD", "groups", "table_numbers", "segment_numbers", "pack_image", "Reader", "unpack_image", "_law_bag", "_law_take", "_law_pick", "_law_size", "_law_thing", "_law_row", "_law_rows", "_law_image", "_law_groups", "_law_bytes", "_law_same"]
theorem run (w : World) : HandSHeadRun.RunEq RR (PySem.W.view RR.prog [27]) hk obR 3000 nms w :=
  PySem.W.byRow2 "special-get-raises" (P := fun w => HandSHeadRun.RunEq RR (PySem.W.view RR.prog [27]) hk obR 3000 nms w) (fun w => by intro os; kernel_rfl) (fun w => by intro os; kernel_rfl) w
theorem facts {P : Program} {w : World} {K : PySem.W.Frag} {h : Heap} {mg : Str → Option Value} {f : Addr} (X : K.In h) (G : h.Ns mainGlobals mg) (hfa : mg ("law" : Str) = some (.ref f)) (c : He.SaysT fa fn ts w K) (hx : xb K = true) :
    ∃ fd : FuncData, (∀ (s : Shared) (v : Value), BindsTo s fd ⟨[v], []⟩ [("script", v)]) ∧ ∀ base : Heap, K.In base → base.Ns mainGlobals mg → FnOk P w K mg base CX0 11 f fd ["script"] (sp_law K) := by
  have T : Tx w K mg := ⟨⟨h, X, G⟩, c.d, hx, c.tab 0 rfl⟩
  have e := hfa.symm.trans (g_law T)
  cases e
  have b := FunD.bindsA (ps := ["script"]) (F_law T) fun _ _ _ _ _ _ us hl => match us, hl with | [_], _ => rfl
  exact ⟨fd_law T, fun s v => b s [v] rfl, fun base _ _ => ok_law T⟩
end R
open PySem PySem.W PySem.Calls PyProof.Rows
set_option maxHeartbeats 0
theorem PySem.Challenge.cw_rungstead_k48_bytes_and_back_holds : PySem.Challenge.rw_rungstead_k48_bytes_and_back.Holds := by
  w_on; o_law
  refine HandSHeadRun.head_any (r := OpenLaw.row PySem.Challenge.rw_rungstead_k48_bytes_and_back) (q := view (OpenLaw.row PySem.Challenge.rw_rungstead_k48_bytes_and_back).prog [27]) (H := R.hk) (ob := R.obR) (M := 3000) (loose := R.nms) (d := HandSHeadRun.topDef (OpenLaw.row PySem.Challenge.rw_rungstead_k48_bytes_and_back).prog 27) (kwd := []) R.obR_eq
    (by kernel_rfl) (fun s => by kernel_rfl) R.run (by kernel_rfl) (by kernel_rfl) (by kernel_rfl) (by rfl) (by first | assumption | decide +kernel) (by decide +kernel) ⟨rfl, rfl, rfl, rfl, rfl, by decide +kernel⟩ ?hw ?hc
  case hw => w_witness2
  case hc =>
    refine L2.walk_ofE (l := PySem.Challenge.rw_rungstead_k48_bytes_and_back) (n := 63) (k := 11) (x := "script") (CX := L2.CX0) rfl (by decide) (by kernel_rfl) ⟨rfl, by decide, by decide⟩ ?F (fun _ _ _ _ z => z)
    intro w mg fa h Y G hmg0
    obtain ⟨K, KX, c, hx⟩ := Y
    have hmg : mg ("law" : PySem.Str) = some (.ref fa) := by
      have e : (HandSHeadRun.topDef (OpenLaw.row PySem.Challenge.rw_rungstead_k48_bytes_and_back).prog 27).name = ("law" : PySem.Str) := by kernel_rfl
      rw [← e]
      exact hmg0
    obtain ⟨fd, hb, hF⟩ := R.facts (P := (PySem.Challenge.rw_rungstead_k48_bytes_and_back).prog) (w := w) KX G hmg c hx
    exact ⟨K, fd, R.sp_law K, KX, hb, fun H a ns hl hO hS => ⟨.ref a, rfl, a, ns, rfl, (by first | exact hS | exact R.sqf_of hO hS), hl, fun _ => rfl⟩, hF⟩
#print axioms PySem.Challenge.cw_rungstead_k48_bytes_and_back_holds
